import PyProof.Rows.All
import Wide.All
import OpenK.AllK
import Wide.FinOn
import HandS.ForMost
import HandS.ForExc
import HandS.Wide
import HandS.WideMore
import HandS.TupAny
import HandS.TupMul
import HandS.IsInst
import HandS.Style
import HandS.Lambda
import HandS.Deep
import KE.KTupSum
import HandS.Conv
import HandS.TryOnly
import HandS.StrMore
import HandS.RaiseMore
import KE.IntTextLaws
import HandS.EndTab
import HandS.EndOwn
import HandS.NestedK
import PyProof.StrBlock2
import HandS.Property
import HandS.Star
import HandS.MethStar
import PyProof.InstNe
import KE.KOpsOwn
import HandS.OwnEq
import HandS.Codes
import HandS.SlotsOwn
import HandS.Finally
import HandS.RaiseOp
import HandS.HotCalls
import HandS.ExcIs
import PySem.Challenge.RW_runsplits_k13_attempts_at_desks
set_option Elab.async false
set_option linter.all false
set_option maxRecDepth 100000
set_option maxHeartbeats 4000000
namespace DL
/-- the tables of code objects in which lambdas are noted, with their names -/
def lamT : List (PySem.Addr × PySem.Str) := [(461, "_law_nested.<locals>.<lambda>"), (482, "_law_ended.<locals>.<lambda>"), (489, "_law_back.<locals>.<lambda>")]
/-- the class whose instances stand in slots, and its two fields -/
def objC : PySem.Addr := 427
def obf1 : PySem.Str := "now"
def obf2 : PySem.Str := "past"
end DL

namespace DL
open PySem PySem.Spec PyProof.Rows L2
abbrev St := L2.St

/-! ## data -/
/-- the text of a lambda -/
structure LamC where
  params : Arguments
  body : Expr
  scope : Scope
/-- the object of a lambda -/
def lamObj (f cc : Addr) (q : Str) (L : LamC) (cells : List (Str × Addr)) (h : Heap) : Prop := ∃ pm ctv : Value, h.get? f = some (PySem.W.kla_obj "<lambda>" q L.params L.body L.scope (cloFrom cells L.scope.names []) pm cc ctv)
def LamO (f cc : Addr) (q : Str) (L : LamC) (cells : List (Str × Addr)) : HO := .ext (lamObj f cc q L cells)
/-- what a step keeps of itself: no table, nothing told by what is true of it -/
def NT (o : HO) : Prop := (∀ ps, o ≠ .tbl ps) ∧ (∀ φ, o ≠ .ext φ) ∧ ∀ dx fs, o ≠ .ins objC dx fs
inductive D where
  | non | bl (b : Bool) | int (i : Int) | str (x : Str) | lst (xs : List D) | tup (xs : List D) | ref (a : Addr)
  /-- a list of ints that is read alone (the script) -/
  | scr (ns : List Int)
  /-- a lambda of the name q that reads the cells -/
  | lam (q : Str) (L : LamC) (cells : List (Str × Addr))

mutual
inductive Dv (K : PySem.W.Frag) (H : Hp) : V → D → Prop
  | non : Dv K H .non .non
  | bl (b : Bool) : Dv K H (.bl b) (.bl b)
  | int (i : Int) : Dv K H (.int i) (.int i)
  | str (x : Str) : Dv K H (.str x) (.str x)
  | lst {a : Addr} {xs : List V} {ds : List D} : H a = some (.lst xs) → ds.length ≤ sizeLine → DvA K H xs ds → Dv K H (.ref a) (.lst ds)
  | tup {a : Addr} {xs : List V} {ds : List D} : H a = some (.tup xs) → ds.length ≤ sizeLine → DvA K H xs ds → Dv K H (.ref a) (.tup ds)
  | ref (a : Addr) : Dv K H (.ref a) (.ref a)
  | lam {f cc : Addr} {q : Str} {L : LamC} {cells : List (Str × Addr)} : H f = some (LamO f cc q L cells) → H cc = some (LamX.CodeO cc q) → Dv K H (.ref f) (.lam q L cells)
  | scr {a : Addr} {ns : List Int} : SqL K H a (ns.map V.int) → Dv K H (.ref a) (.scr ns)
inductive DvA (K : PySem.W.Frag) (H : Hp) : List V → List D → Prop
  | nil : DvA K H [] []
  | cons {v : V} {vs : List V} {d : D} {ds : List D} : Dv K H v d → DvA K H vs ds → DvA K H (v :: vs) (d :: ds)
end
mutual
theorem Dv.mono {K : PySem.W.Frag} {H H' : Hp} (e : Same H H') : ∀ (d : D) (v : V), Dv K H v d → Dv K H' v d
  | .non, _, h => by cases h; exact .non
  | .bl b, _, h => by cases h; exact .bl b
  | .int i, _, h => by cases h; exact .int i
  | .str x, _, h => by cases h; exact .str x
  | .ref a, _, h => by cases h; exact .ref a
  | .scr ns, _, h => by cases h with | scr hs => exact .scr (e.seq hs)
  | .lam q L cs, _, h => by cases h with | lam h1 h2 => exact .lam (e _ _ h1) (e _ _ h2)
  | .lst ds, _, h => by cases h with | lst hs hz ha => exact .lst (e _ _ hs) hz (DvA.mono e ds _ ha)
  | .tup ds, _, h => by cases h with | tup hs hz ha => exact .tup (e _ _ hs) hz (DvA.mono e ds _ ha)
theorem DvA.mono {K : PySem.W.Frag} {H H' : Hp} (e : Same H H') : ∀ (ds : List D) (vs : List V), DvA K H vs ds → DvA K H' vs ds
  | [], _, h => by cases h; exact .nil
  | d :: ds, _, h => by cases h with | cons h1 h2 => exact .cons (Dv.mono e d _ h1) (DvA.mono e ds _ h2)
end
section
variable {K : PySem.W.Frag} {H H' : Hp}
theorem DvA.length : ∀ {ds : List D} {vs : List V}, DvA K H vs ds → vs.length = ds.length
  | [], _, h => by cases h; rfl
  | d :: ds, _, h => by cases h with | cons h1 h2 => simp [DvA.length h2]
theorem DvA.get : ∀ {ds : List D} {vs : List V} {i : Nat} {v : V}, DvA K H vs ds → vs[i]? = some v → ∃ d, ds[i]? = some d ∧ Dv K H v d
  | [], _, i, v, h, e => by cases h; simp at e
  | d :: ds, _, 0, v, h, e => by cases h with | cons h1 h2 => simp at e; subst e; exact ⟨d, rfl, h1⟩
  | d :: ds, _, i + 1, v, h, e => by cases h with | cons h1 h2 => simp at e; simpa using DvA.get h2 e
theorem DvA.getD : ∀ {ds : List D} {vs : List V} {i : Nat} {d : D}, DvA K H vs ds → ds[i]? = some d → ∃ v, vs[i]? = some v ∧ Dv K H v d
  | [], _, i, v, h, e => by simp at e
  | d :: ds, _, 0, v, h, e => by cases h with | cons h1 h2 => simp at e; subst e; exact ⟨_, rfl, h1⟩
  | d :: ds, _, i + 1, v, h, e => by cases h with | cons h1 h2 => simp at e; simpa using DvA.getD h2 e
theorem DvA.append : ∀ {ds es : List D} {vs ws : List V}, DvA K H vs ds → DvA K H ws es → DvA K H (vs ++ ws) (ds ++ es)
  | [], _, _, _, h, h' => by cases h; exact h'
  | d :: ds, _, _, _, h, h' => by cases h with | cons h1 h2 => exact .cons h1 (DvA.append h2 h')
theorem DvA.take : ∀ {ds : List D} {vs : List V} (n : Nat), DvA K H vs ds → DvA K H (vs.take n) (ds.take n)
  | _, _, 0, _ => by simpa using DvA.nil
  | [], _, n + 1, h => by cases h; simpa using DvA.nil
  | d :: ds, _, n + 1, h => by cases h with | cons h1 h2 => simpa using DvA.cons h1 (DvA.take n h2)
theorem DvA.drop : ∀ {ds : List D} {vs : List V} (n : Nat), DvA K H vs ds → DvA K H (vs.drop n) (ds.drop n)
  | _, _, 0, h => by simpa using h
  | [], _, n + 1, h => by cases h; simpa using DvA.nil
  | d :: ds, _, n + 1, h => by cases h with | cons h1 h2 => simpa using DvA.drop n h2
theorem DvA.set {v : V} {d : D} (hd : Dv K H v d) : ∀ {ds : List D} {vs : List V} (n : Nat), DvA K H vs ds → DvA K H (vs.set n v) (ds.set n d)
  | [], _, _, h => by cases h; simpa using DvA.nil
  | _ :: _, _, 0, h => by cases h with | cons h1 h2 => exact .cons hd h2
  | _ :: _, _, n + 1, h => by cases h with | cons h1 h2 => exact .cons h1 (DvA.set hd n h2)
theorem DvA.rep {v : V} {d : D} (hd : Dv K H v d) : ∀ n : Nat, DvA K H (List.replicate n v) (List.replicate n d)
  | 0 => .nil
  | n + 1 => .cons hd (DvA.rep hd n)
end

/-! ## the state -/
inductive Sl where
  | val (d : D)
  /-- a list that this slot alone holds; it may be changed -/
  | own (xs : List D)
  /-- the list that the caller lent -/
  | via
  /-- an object of the class, its two fields; no other slot holds it -/
  | obj (n p : D)
structure S where
  sl : List (Option Sl)
  via : Option (List D)
def S.put (s : S) (i : Nat) (x : Sl) : S := ⟨s.sl.set i (some x), s.via⟩
def S.clr (s : S) (i : Nat) : S := ⟨s.sl.set i none, s.via⟩
@[simp] theorem S.put_via (s : S) (i : Nat) (x : Sl) : (s.put i x).via = s.via := rfl
@[simp] theorem S.put_mk (l : List (Option Sl)) (w : Option (List D)) (i : Nat) (x : Sl) : S.put ⟨l, w⟩ i x = ⟨l.set i (some x), w⟩ := rfl

inductive R (α : Type) where
  | ok (a : α) (s : S)
  | exc (n : Str) (p : Option Int) (s : S)
  | stuck
def R.bind {α β : Type} (r : R α) (k : α → S → R β) : R β := match r with
  | .ok a s => k a s
  | .exc n p s => .exc n p s
  | .stuck => .stuck
@[simp] theorem R.bind_ok {α β : Type} (a : α) (s : S) (k : α → S → R β) : (R.ok a s).bind k = k a s := rfl
@[simp] theorem R.bind_exc {α β : Type} (n : Str) (p : Option Int) (s : S) (k : α → S → R β) : (R.exc n p s : R α).bind k = .exc n p s := rfl
@[simp] theorem R.bind_stuck {α β : Type} (k : α → S → R β) : (R.stuck : R α).bind k = .stuck := rfl

/-- how a statement ends -/
inductive T where
  | next (s : S) | ret (d : D) (s : S) | retO (xs : List D) (s : S) | brk (s : S) | cnt (s : S) | exc (n : Str) (p : Option Int) (s : S) | stuck
def R.thn {α : Type} (r : R α) (k : α → S → T) : T := match r with
  | .ok a s => k a s
  | .exc n p s => .exc n p s
  | .stuck => .stuck
@[simp] theorem R.thn_ok {α : Type} (a : α) (s : S) (k : α → S → T) : (R.ok a s).thn k = k a s := rfl
@[simp] theorem R.thn_exc {α : Type} (n : Str) (p : Option Int) (s : S) (k : α → S → T) : (R.exc n p s : R α).thn k = .exc n p s := rfl
@[simp] theorem R.thn_stuck {α : Type} (k : α → S → T) : (R.stuck : R α).thn k = .stuck := rfl
def T.seq (r : T) (k : S → T) : T := match r with
  | .next s => k s
  | r => r
@[simp] theorem T.seq_next (s : S) (k : S → T) : (T.next s).seq k = k s := rfl
@[simp] theorem T.seq_ret (d : D) (s : S) (k : S → T) : (T.ret d s).seq k = .ret d s := rfl
@[simp] theorem T.seq_retO (d : List D) (s : S) (k : S → T) : (T.retO d s).seq k = .retO d s := rfl
@[simp] theorem T.seq_brk (s : S) (k : S → T) : (T.brk s).seq k = .brk s := rfl
@[simp] theorem T.seq_cnt (s : S) (k : S → T) : (T.cnt s).seq k = .cnt s := rfl
@[simp] theorem T.seq_exc (n : Str) (p : Option Int) (s : S) (k : S → T) : (T.exc n p s).seq k = .exc n p s := rfl
@[simp] theorem T.seq_stuck (k : S → T) : T.stuck.seq k = .stuck := rfl

/-- where the lent list lies, and the tables of code objects that are known -/
structure VA where
  a : Addr
  p0 : Option Addr := none
  p1 : Option Addr := none
/-- where the object of a slot must lie -/
def VA.pin (va : VA) : Nat → Option Addr
  | 0 => va.p0
  | 1 => va.p1
  | _ => none
theorem VA.pin_hi (va : VA) : ∀ {i : Nat}, 2 ≤ i → va.pin i = none
  | 0, h => absurd h (by decide)
  | 1, h => absurd h (by decide)
  | _ + 2, _ => rfl
/-- the known tables; what stays as it is holds none of them -/
structure TB (T : List (Addr × Str)) (HP H : Hp) : Prop where
  t : LamX.Tabs T H
  n : ∀ b ps, HP b ≠ some (.tbl ps)
theorem noTb_upd {HP : Hp} {p : Addr} {o : HO} (h : ∀ b ps, HP b ≠ some (.tbl ps)) (ho : ∀ ps, o ≠ .tbl ps) : ∀ b ps, upd HP p o b ≠ some (.tbl ps) := fun b ps z => by
  by_cases e : b = p
  · subst e; rw [upd_same] at z; exact ho ps (Option.some.inj z)
  · rw [upd_ne e] at z; exact h b ps z
/-- an object of the class, its fields told -/
def ObAt (K : PySem.W.Frag) (HP H : Hp) (a : Addr) (n p : D) : Prop := HP a = none ∧ ∃ dx v1 v2, H a = some (.ins objC dx [(obf1, v1), (obf2, v2)]) ∧ Dv K HP v1 n ∧ Dv K HP v2 p
/-- the objects that slots hold -/
structure Obs (K : PySem.W.Frag) (va : VA) (s : S) (σ : St) (HP H : Hp) : Prop where
  at_ : ∀ (i : Nat) n p, s.sl[i]? = some (some (.obj n p)) → ∃ a, σ[i]? = some (some (.ref a)) ∧ ObAt K HP H a n p
  dis : ∀ (i j : Nat) n p n' p' a, i ≠ j → s.sl[i]? = some (some (.obj n p)) → s.sl[j]? = some (some (.obj n' p')) → σ[i]? = some (some (.ref a)) → σ[j]? ≠ some (some (.ref a))
  pin : ∀ (i : Nat) n p a, s.sl[i]? = some (some (.obj n p)) → va.pin i = some a → σ[i]? = some (some (.ref a))
def OwnB (s : S) (σ : St) (b : Addr) : Prop := ∃ (i : Nat) (n p : D), s.sl[i]? = some (some (.obj n p)) ∧ σ[i]? = some (some (.ref b))
/-- what is kept of the objects that no slot holds -/
def KOb (s : S) (σ : St) (HP H : Hp) (s' : S) (σ' : St) (HP' H' : Hp) : Prop := ∀ b dx fs, H b = some (.ins objC dx fs) → HP b = none → ¬ OwnB s σ b → H' b = some (.ins objC dx fs) ∧ HP' b = none ∧ ¬ OwnB s' σ' b
theorem KOb.trans {s s1 s2 : S} {σ σ1 σ2 : St} {HP H HP1 H1 HP2 H2 : Hp} (a : KOb s σ HP H s1 σ1 HP1 H1) (b : KOb s1 σ1 HP1 H1 s2 σ2 HP2 H2) : KOb s σ HP H s2 σ2 HP2 H2 := fun c dx fs e n o => by
  obtain ⟨h1, h2, h3⟩ := a c dx fs e n o
  exact b c dx fs h1 h2 h3
structure Obk (K : PySem.W.Frag) (va : VA) (s : S) (σ : St) (HP H : Hp) (s' : S) (σ' : St) (HP' H' : Hp) : Prop where
  ob : Obs K va s' σ' HP' H'
  kob : KOb s σ HP H s' σ' HP' H'
/-- a step that leaves the objects alone -/
theorem Obs.step {K : PySem.W.Frag} {va : VA} {s s' : S} {σ σ' : St} {HP H HP' H' : Hp} (r : Obs K va s σ HP H) (sm : Same HP HP') (hk : ∀ b dx fs, H b = some (.ins objC dx fs) → HP b = none → H' b = some (.ins objC dx fs) ∧ HP' b = none)
    (hs : ∀ (i : Nat) n p, s'.sl[i]? = some (some (.obj n p)) → s.sl[i]? = some (some (.obj n p)) ∧ σ'[i]? = σ[i]?) : Obk K va s σ HP H s' σ' HP' H' := by
  refine ⟨⟨fun i n p e => ?_, fun i j n p n' p' a ne e1 e2 e3 => ?_, fun i n p a e z => (by obtain ⟨e', eσ⟩ := hs i n p e; rw [eσ]; exact r.pin i n p a e' z)⟩, fun b dx fs e n o => ?_⟩
  · obtain ⟨e', eσ⟩ := hs i n p e
    obtain ⟨a, h1, h2, dx, v1, v2, h3, d1, d2⟩ := r.at_ i n p e'
    obtain ⟨k1, k2⟩ := hk a dx _ h3 h2
    exact ⟨a, by rw [eσ]; exact h1, k2, dx, v1, v2, k1, Dv.mono sm n v1 d1, Dv.mono sm p v2 d2⟩
  · obtain ⟨e1', eσ1⟩ := hs i n p e1
    obtain ⟨e2', eσ2⟩ := hs j n' p' e2
    rw [eσ1] at e3
    rw [eσ2]
    exact r.dis i j n p n' p' a ne e1' e2' e3
  · obtain ⟨k1, k2⟩ := hk b dx fs e n
    refine ⟨k1, k2, fun ⟨i, n', p', q1, q2⟩ => o ?_⟩
    obtain ⟨q1', eσ⟩ := hs i n' p' q1
    exact ⟨i, n', p', q1', by rw [← eσ]; exact q2⟩
section
variable (K : PySem.W.Frag) (mg : Str → Option Value) (va : VA)
/-- the state told of: HP the part of the heap that stays as it is -/
structure Rel (s : S) (σ : St) (HP H : Hp) : Prop where
  len : s.sl.length = σ.length
  sub : Same HP H
  val : ∀ (i : Nat) d, s.sl[i]? = some (some (.val d)) → ∃ v, σ[i]? = some (some v) ∧ Dv K HP v d
  own : ∀ (i : Nat) xs, s.sl[i]? = some (some (.own xs)) → ∃ a vs, σ[i]? = some (some (.ref a)) ∧ HP a = none ∧ H a = some (.lst vs) ∧ xs.length ≤ sizeLine ∧ DvA K HP vs xs
  vis : ∀ (i : Nat), s.sl[i]? = some (some .via) → σ[i]? = some (some (.ref va.a)) ∧ s.via ≠ none
  vst : ∀ xs, s.via = some xs → HP va.a = none ∧ ∃ vs, H va.a = some (.lst vs) ∧ xs.length ≤ sizeLine ∧ DvA K HP vs xs
  dis : ∀ (i j : Nat) xs ys a, i ≠ j → s.sl[i]? = some (some (.own xs)) → s.sl[j]? = some (some (.own ys)) → σ[i]? = some (some (.ref a)) → σ[j]? ≠ some (some (.ref a))
  dvi : ∀ (i : Nat) xs, s.sl[i]? = some (some (.own xs)) → s.via ≠ none → σ[i]? ≠ some (some (.ref va.a))
  tab : TB lamT HP H
  ob : Obs K va s σ HP H
def Owns (s : S) (σ : St) (b : Addr) : Prop := (∃ (i : Nat) (xs : List D), s.sl[i]? = some (some (.own xs)) ∧ σ[i]? = some (some (.ref b))) ∨ (s.via ≠ none ∧ b = va.a)
structure Stp (s : S) (σ : St) (HP H : Hp) (s' : S) (σ' : St) (HP' H' : Hp) : Prop where
  rel : Rel K va s' σ' HP' H'
  same : Same HP HP'
  keep : ∀ b o, H b = some o → NT o → ¬ Owns va s σ b → H' b = some o ∧ ¬ Owns va s' σ' b ∧ (HP b = none → HP' b = none)
  via : s.via = none ↔ s'.via = none
  kob : KOb s σ HP H s' σ' HP' H'
end
section
variable {K : PySem.W.Frag} {mg : Str → Option Value} {va : VA} {s s1 s2 : S} {σ σ1 σ2 : St} {HP H HP1 H1 HP2 H2 : Hp}
theorem Stp.refl (r : Rel K va s σ HP H) : Stp K va s σ HP H s σ HP H := ⟨r, Same.refl _, fun b o h _ n => ⟨h, n, fun z => z⟩, Iff.rfl, fun _ _ _ h n o => ⟨h, n, o⟩⟩
theorem Stp.trans (a : Stp K va s σ HP H s1 σ1 HP1 H1) (b : Stp K va s1 σ1 HP1 H1 s2 σ2 HP2 H2) : Stp K va s σ HP H s2 σ2 HP2 H2 :=
  ⟨b.rel, a.same.trans b.same, fun c o h nt n => by
    obtain ⟨h1, n1, p1⟩ := a.keep c o h nt n
    obtain ⟨h2, n2, p2⟩ := b.keep c o h1 nt n1
    exact ⟨h2, n2, fun z => p2 (p1 z)⟩, a.via.trans b.via, a.kob.trans b.kob⟩
theorem tab_upd {T : List (Addr × Str)} {a : Addr} {o : HO} {vs : List V} (t : LamX.Tabs T H) (h : H a = some (.lst vs)) : LamX.Tabs T (upd H a o) := fun p hp => by
  obtain ⟨ps, h1, h2, h3⟩ := t p hp
  have n1 : p.1 ≠ a := fun z => by rw [z, h] at h1; cases h1
  refine ⟨ps, by rw [upd_ne n1]; exact h1, h2, fun pos cv hc => ?_⟩
  obtain ⟨c, e1, e2⟩ := h3 pos cv hc
  have n2 : c ≠ a := fun z => by
    rw [z, h] at e2
    unfold LamX.CodeO at e2
    cases e2
  exact ⟨c, e1, by rw [upd_ne n2]; exact e2⟩
/-- a new object that stays -/
theorem Rel.laid (r : Rel K va s σ HP H) {p : Addr} {o : HO} (n : H p = none) (ho : ∀ ps, o ≠ .tbl ps := by intro _ z; cases z) : Stp K va s σ HP H s σ (upd HP p o) (upd H p o) := by
  have nP : HP p = none := r.sub.free n
  have sm : Same HP (upd HP p o) := fun b x e => by rw [upd_ne (ne_of_none e nP)]; exact e
  have ne : ∀ {b x}, H b = some x → b ≠ p := fun e => ne_of_none e n
  have no : ∀ b x, H b = some x → upd H p o b = some x := fun b x e => by rw [upd_ne (ne e)]; exact e
  have ko : Obk K va s σ HP H s σ (upd HP p o) (upd H p o) := r.ob.step sm (fun b dx fs e n => ⟨no b _ e, by rw [upd_ne (ne e)]; exact n⟩) fun i n p e => ⟨e, rfl⟩
  refine ⟨⟨r.len, fun b x e => ?_, fun i d e => ?_, fun i xs e => ?_, r.vis, fun xs e => ?_, r.dis, r.dvi, ⟨r.tab.t.ext no, noTb_upd r.tab.n ho⟩, ko.ob⟩, sm, fun b x e _ nb => ⟨no b x e, nb, fun z => ?_⟩, Iff.rfl, ko.kob⟩
  · by_cases h : b = p
    · subst h; rw [upd_same] at e ⊢; exact e
    · rw [upd_ne h] at e ⊢; exact r.sub b x e
  · obtain ⟨v, h1, h2⟩ := r.val i d e
    exact ⟨v, h1, Dv.mono sm d v h2⟩
  · obtain ⟨a, vs, h1, h2, h3, hz, h4⟩ := r.own i xs e
    exact ⟨a, vs, h1, by rw [upd_ne (ne h3)]; exact h2, no _ _ h3, hz, DvA.mono sm xs vs h4⟩
  · obtain ⟨h1, vs, h2, hz, h3⟩ := r.vst xs e
    exact ⟨by rw [upd_ne (ne h2)]; exact h1, vs, no _ _ h2, hz, DvA.mono sm xs vs h3⟩
  · rw [upd_ne (ne e)]; exact z
end

/-! ## the judgements -/
/-- the class of an exception by its name -/
def ECl (mg : Str → Option Value) (n : Str) (C : Value) : Prop := mg n = some C ∨ (n = "KeyError" ∧ mg n = none ∧ C = .type "KeyError")
/-- what an exception carries -/
def ExcAt (p : Option Int) (dd : Option Addr) (H : Hp) : Prop := match p with
  | none => dd = dd
  | some i => ∃ a, dd = some a ∧ H a = some (.xd [(("limit" : Str), .int i)])
section
variable (X : Cx) (W : WX)
/-- the end of an expression that is told by r -/
def PoE (va : VA) (s : S) (σ : St) (HP H : Hp) (r : R D) (Q : VK) : Prop := match r with
  | .ok d s' => ∀ v H' HP', Stp X.K va s σ HP H s' σ HP' H' → Dv X.K HP' v d → Q v H'
  | .exc n p s' => ∀ dd H' HP' C, Stp X.K va s σ HP H s' σ HP' H' → ExcAt p dd H' → ECl X.mg n C → W C dd σ H'
  | .stuck => False
def PoT (va : VA) (s : S) (σ : St) (HP H : Hp) (r : R Bool) (Q : Bool → Hp → Prop) : Prop := match r with
  | .ok b s' => ∀ H' HP', Stp X.K va s σ HP H s' σ HP' H' → Q b H'
  | .exc n p s' => ∀ dd H' HP' C, Stp X.K va s σ HP H s' σ HP' H' → ExcAt p dd H' → ECl X.mg n C → W C dd σ H'
  | .stuck => False
def PoA (va : VA) (s : S) (σ : St) (HP H : Hp) (r : R (List D)) (Q : List V → Hp → Prop) : Prop := match r with
  | .ok ds s' => ∀ vs H' HP', Stp X.K va s σ HP H s' σ HP' H' → DvA X.K HP' vs ds → Q vs H'
  | .exc n p s' => ∀ dd H' HP' C, Stp X.K va s σ HP H s' σ HP' H' → ExcAt p dd H' → ECl X.mg n C → W C dd σ H'
  | .stuck => False
def PoS (va : VA) (s : S) (σ : St) (HP H : Hp) (r : T) (D : Ends) : Prop := match r with
  | .next s' => ∀ σ' H' HP', Stp X.K va s σ HP H s' σ' HP' H' → D.nx σ' H'
  | .ret d s' => ∀ v σ' H' HP', Stp X.K va s σ HP H s' σ' HP' H' → Dv X.K HP' v d → D.rt v H'
  | .retO xs s' => ∀ p vs σ' H' HP', Stp X.K va s σ HP H s' σ' HP' H' → H' p = none → xs.length ≤ sizeLine → DvA X.K HP' vs xs → D.rt (.ref p) (upd H' p (.lst vs))
  | .brk s' => ∀ σ' H' HP', Stp X.K va s σ HP H s' σ' HP' H' → D.bk σ' H'
  | .cnt s' => ∀ σ' H' HP', Stp X.K va s σ HP H s' σ' HP' H' → D.ct σ' H'
  | .exc n p s' => ∀ dd σ' H' HP' C, Stp X.K va s σ HP H s' σ' HP' H' → ExcAt p dd H' → ECl X.mg n C → W C dd σ' H'
  | .stuck => False
def tDE (f : S → R D) : TE := fun σ H Q => ∃ va s HP, Rel X.K va s σ HP H ∧ PoE X W va s σ HP H (f s) Q
def tDT (f : S → R Bool) : TT := fun σ H Q => ∃ va s HP, Rel X.K va s σ HP H ∧ PoT X W va s σ HP H (f s) Q
def tDA (f : S → R (List D)) : TA := fun σ H Q => ∃ va s HP, Rel X.K va s σ HP H ∧ PoA X W va s σ HP H (f s) Q
def tDS (f : S → T) : TS := fun D σ H => ∃ va s HP, Rel X.K va s σ HP H ∧ PoS X W va s σ HP H (f s) D
def DE (e : Expr) (f : S → R D) : Prop := PE X e (tDE X W f)
def DT (e : Expr) (f : S → R Bool) : Prop := PT X e (tDT X W f)
def DW (e : Expr) (f : S → R Bool) : Prop := PW X e (tDT X W f)
def DA (es : List Expr) (f : S → R (List D)) : Prop := PA X es (tDA X W f)
def DS (st : Stmt) (f : S → T) : Prop := PS X st (tDS X W f)
def DSs (st : List Stmt) (f : S → T) : Prop := PSs X st (tDS X W f)
end
section
variable {X : Cx} {e : Expr} {es : List Expr} {st : Stmt} {sts : List Stmt}
theorem pe_imp {t t' : TE} (h : PE X e t) (i : ∀ σ H Q, t' σ H Q → t σ H Q) : PE X e t' := ⟨fun pins s σ H Q I w => h.run pins s σ H Q I (i σ H Q w)⟩
theorem pt_imp {t t' : TT} (h : PT X e t) (i : ∀ σ H Q, t' σ H Q → t σ H Q) : PT X e t' := ⟨fun pins s σ H Q I w => h.run pins s σ H Q I (i σ H Q w)⟩
theorem pw_imp {t t' : TT} (h : PW X e t) (i : ∀ σ H Q, t' σ H Q → t σ H Q) : PW X e t' := ⟨fun wh pins s σ H Q I w => h.run wh pins s σ H Q I (i σ H Q w)⟩
theorem pa_imp {t t' : TA} (h : PA X es t) (i : ∀ σ H Q, t' σ H Q → t σ H Q) : PA X es t' := ⟨fun pos pins s σ H Q I w => h.run pos pins s σ H Q I (i σ H Q w)⟩
theorem ps_imp {t t' : TS} (h : PS X st t) (i : ∀ D σ H, t' D σ H → t D σ H) : PS X st t' := ⟨fun pins s σ H D I w => h.run pins s σ H D I (i D σ H w)⟩
theorem pss_imp {t t' : TS} (h : PSs X sts t) (i : ∀ D σ H, t' D σ H → t D σ H) : PSs X sts t' := ⟨fun pins s σ H D I w => h.run pins s σ H D I (i D σ H w)⟩
end
section
variable {X : Cx} {W : WX} {va : VA} {s s1 : S} {σ σ1 : St} {HP H HP1 H1 : Hp}
theorem PoE.from (a : Stp X.K va s σ HP H s1 σ HP1 H1) {r : R D} {Q : VK} (h : PoE X W va s σ HP H r Q) : PoE X W va s1 σ HP1 H1 r Q := by
  cases r with
  | ok d s' => exact fun v H' HP' st dv => h v H' HP' (a.trans st) dv
  | exc n p s' => exact fun dd H' HP' C st e m => h dd H' HP' C (a.trans st) e m
  | stuck => exact h
theorem PoT.from (a : Stp X.K va s σ HP H s1 σ HP1 H1) {r : R Bool} {Q : Bool → Hp → Prop} (h : PoT X W va s σ HP H r Q) : PoT X W va s1 σ HP1 H1 r Q := by
  cases r with
  | ok d s' => exact fun H' HP' st => h H' HP' (a.trans st)
  | exc n p s' => exact fun dd H' HP' C st e m => h dd H' HP' C (a.trans st) e m
  | stuck => exact h
theorem PoA.from (a : Stp X.K va s σ HP H s1 σ HP1 H1) {r : R (List D)} {Q : List V → Hp → Prop} (h : PoA X W va s σ HP H r Q) : PoA X W va s1 σ HP1 H1 r Q := by
  cases r with
  | ok d s' => exact fun v H' HP' st dv => h v H' HP' (a.trans st) dv
  | exc n p s' => exact fun dd H' HP' C st e m => h dd H' HP' C (a.trans st) e m
  | stuck => exact h
theorem PoS.from (a : Stp X.K va s σ HP H s1 σ1 HP1 H1) {r : T} {D : Ends} (h : PoS X W va s σ HP H r D) : PoS X W va s1 σ1 HP1 H1 r D := by
  cases r with
  | next s' => exact fun σ' H' HP' st => h σ' H' HP' (a.trans st)
  | ret d s' => exact fun v σ' H' HP' st dv => h v σ' H' HP' (a.trans st) dv
  | retO xs s' => exact fun p vs σ' H' HP' st n z dv => h p vs σ' H' HP' (a.trans st) n z dv
  | brk s' => exact fun σ' H' HP' st => h σ' H' HP' (a.trans st)
  | cnt s' => exact fun σ' H' HP' st => h σ' H' HP' (a.trans st)
  | exc n p s' => exact fun dd σ' H' HP' C st e m => h dd σ' H' HP' C (a.trans st) e m
  | stuck => exact h
/-- an expression, then more -/
theorem bindE {f : S → R D} {R : VK} (r : Rel X.K va s σ HP H)
    (k : ∀ d s' v H' HP', f s = .ok d s' → Stp X.K va s σ HP H s' σ HP' H' → Dv X.K HP' v d → R v H')
    (kx : ∀ n p s' dd H' HP' C, f s = .exc n p s' → Stp X.K va s σ HP H s' σ HP' H' → ExcAt p dd H' → ECl X.mg n C → W C dd σ H')
    (ks : f s ≠ .stuck) : tDE X W f σ H R := by
  refine ⟨va, s, HP, r, ?_⟩
  cases e : f s with
  | ok d s' => exact fun v H' HP' st dv => k d s' v H' HP' e st dv
  | exc n p s' => exact fun dd H' HP' C st x m => kx n p s' dd H' HP' C e st x m
  | stuck => exact ks e
theorem bindEE {f : S → R D} {g : D → S → R D} {Q R : VK} (r : Rel X.K va s σ HP H) (h : PoE X W va s σ HP H ((f s).bind g) Q)
    (k : ∀ d s' v H' HP', Stp X.K va s σ HP H s' σ HP' H' → Dv X.K HP' v d → PoE X W va s' σ HP' H' (g d s') Q → R v H') : tDE X W f σ H R := by
  refine bindE r (fun d s' v H' HP' e st dv => ?_) (fun n p s' dd H' HP' C e st x m => ?_) (fun e => ?_) <;> rw [e] at h
  · exact k d s' v H' HP' st dv (h.from st)
  · exact h dd H' HP' C st x m
  · exact h
theorem bindET {f : S → R D} {g : D → S → R Bool} {Q : Bool → Hp → Prop} {R : VK} (r : Rel X.K va s σ HP H) (h : PoT X W va s σ HP H ((f s).bind g) Q)
    (k : ∀ d s' v H' HP', Stp X.K va s σ HP H s' σ HP' H' → Dv X.K HP' v d → PoT X W va s' σ HP' H' (g d s') Q → R v H') : tDE X W f σ H R := by
  refine bindE r (fun d s' v H' HP' e st dv => ?_) (fun n p s' dd H' HP' C e st x m => ?_) (fun e => ?_) <;> rw [e] at h
  · exact k d s' v H' HP' st dv (h.from st)
  · exact h dd H' HP' C st x m
  · exact h
theorem bindEA {f : S → R D} {g : D → S → R (List D)} {Q : List V → Hp → Prop} {R : VK} (r : Rel X.K va s σ HP H) (h : PoA X W va s σ HP H ((f s).bind g) Q)
    (k : ∀ d s' v H' HP', Stp X.K va s σ HP H s' σ HP' H' → Dv X.K HP' v d → PoA X W va s' σ HP' H' (g d s') Q → R v H') : tDE X W f σ H R := by
  refine bindE r (fun d s' v H' HP' e st dv => ?_) (fun n p s' dd H' HP' C e st x m => ?_) (fun e => ?_) <;> rw [e] at h
  · exact k d s' v H' HP' st dv (h.from st)
  · exact h dd H' HP' C st x m
  · exact h
theorem bindES {f : S → R D} {g : D → S → T} {D : Ends} {R : VK} (r : Rel X.K va s σ HP H) (h : PoS X W va s σ HP H ((f s).thn g) D)
    (k : ∀ d s' v H' HP', Stp X.K va s σ HP H s' σ HP' H' → Dv X.K HP' v d → PoS X W va s' σ HP' H' (g d s') D → R v H') : tDE X W f σ H R := by
  refine bindE r (fun d s' v H' HP' e st dv => ?_) (fun n p s' dd H' HP' C e st x m => ?_) (fun e => ?_) <;> rw [e] at h
  · exact k d s' v H' HP' st dv (h.from st)
  · exact h dd σ H' HP' C st x m
  · exact h
theorem bindT {f : S → R Bool} {R : Bool → Hp → Prop} (r : Rel X.K va s σ HP H)
    (k : ∀ d s' H' HP', f s = .ok d s' → Stp X.K va s σ HP H s' σ HP' H' → R d H')
    (kx : ∀ n p s' dd H' HP' C, f s = .exc n p s' → Stp X.K va s σ HP H s' σ HP' H' → ExcAt p dd H' → ECl X.mg n C → W C dd σ H')
    (ks : f s ≠ .stuck) : tDT X W f σ H R := by
  refine ⟨va, s, HP, r, ?_⟩
  cases e : f s with
  | ok d s' => exact fun H' HP' st => k d s' H' HP' e st
  | exc n p s' => exact fun dd H' HP' C st x m => kx n p s' dd H' HP' C e st x m
  | stuck => exact ks e
theorem bindTT {f : S → R Bool} {g : Bool → S → R Bool} {Q R : Bool → Hp → Prop} (r : Rel X.K va s σ HP H) (h : PoT X W va s σ HP H ((f s).bind g) Q)
    (k : ∀ d s' H' HP', Stp X.K va s σ HP H s' σ HP' H' → PoT X W va s' σ HP' H' (g d s') Q → R d H') : tDT X W f σ H R := by
  refine bindT r (fun d s' H' HP' e st => ?_) (fun n p s' dd H' HP' C e st x m => ?_) (fun e => ?_) <;> rw [e] at h
  · exact k d s' H' HP' st (h.from st)
  · exact h dd H' HP' C st x m
  · exact h
theorem bindTE {f : S → R Bool} {g : Bool → S → R D} {Q : VK} {R : Bool → Hp → Prop} (r : Rel X.K va s σ HP H) (h : PoE X W va s σ HP H ((f s).bind g) Q)
    (k : ∀ d s' H' HP', Stp X.K va s σ HP H s' σ HP' H' → PoE X W va s' σ HP' H' (g d s') Q → R d H') : tDT X W f σ H R := by
  refine bindT r (fun d s' H' HP' e st => ?_) (fun n p s' dd H' HP' C e st x m => ?_) (fun e => ?_) <;> rw [e] at h
  · exact k d s' H' HP' st (h.from st)
  · exact h dd H' HP' C st x m
  · exact h
theorem bindTS {f : S → R Bool} {g : Bool → S → T} {D : Ends} {R : Bool → Hp → Prop} (r : Rel X.K va s σ HP H) (h : PoS X W va s σ HP H ((f s).thn g) D)
    (k : ∀ d s' H' HP', Stp X.K va s σ HP H s' σ HP' H' → PoS X W va s' σ HP' H' (g d s') D → R d H') : tDT X W f σ H R := by
  refine bindT r (fun d s' H' HP' e st => ?_) (fun n p s' dd H' HP' C e st x m => ?_) (fun e => ?_) <;> rw [e] at h
  · exact k d s' H' HP' st (h.from st)
  · exact h dd σ H' HP' C st x m
  · exact h
theorem bindA {f : S → R (List D)} {R : List V → Hp → Prop} (r : Rel X.K va s σ HP H)
    (k : ∀ d s' v H' HP', f s = .ok d s' → Stp X.K va s σ HP H s' σ HP' H' → DvA X.K HP' v d → R v H')
    (kx : ∀ n p s' dd H' HP' C, f s = .exc n p s' → Stp X.K va s σ HP H s' σ HP' H' → ExcAt p dd H' → ECl X.mg n C → W C dd σ H')
    (ks : f s ≠ .stuck) : tDA X W f σ H R := by
  refine ⟨va, s, HP, r, ?_⟩
  cases e : f s with
  | ok d s' => exact fun v H' HP' st dv => k d s' v H' HP' e st dv
  | exc n p s' => exact fun dd H' HP' C st x m => kx n p s' dd H' HP' C e st x m
  | stuck => exact ks e
theorem bindAE {f : S → R (List D)} {g : List D → S → R D} {Q : VK} {R : List V → Hp → Prop} (r : Rel X.K va s σ HP H) (h : PoE X W va s σ HP H ((f s).bind g) Q)
    (k : ∀ d s' v H' HP', Stp X.K va s σ HP H s' σ HP' H' → DvA X.K HP' v d → PoE X W va s' σ HP' H' (g d s') Q → R v H') : tDA X W f σ H R := by
  refine bindA r (fun d s' v H' HP' e st dv => ?_) (fun n p s' dd H' HP' C e st x m => ?_) (fun e => ?_) <;> rw [e] at h
  · exact k d s' v H' HP' st dv (h.from st)
  · exact h dd H' HP' C st x m
  · exact h
theorem bindAA {f : S → R (List D)} {g : List D → S → R (List D)} {Q : List V → Hp → Prop} {R : List V → Hp → Prop} (r : Rel X.K va s σ HP H) (h : PoA X W va s σ HP H ((f s).bind g) Q)
    (k : ∀ d s' v H' HP', Stp X.K va s σ HP H s' σ HP' H' → DvA X.K HP' v d → PoA X W va s' σ HP' H' (g d s') Q → R v H') : tDA X W f σ H R := by
  refine bindA r (fun d s' v H' HP' e st dv => ?_) (fun n p s' dd H' HP' C e st x m => ?_) (fun e => ?_) <;> rw [e] at h
  · exact k d s' v H' HP' st dv (h.from st)
  · exact h dd H' HP' C st x m
  · exact h
/-- the end of an expression's telling -/
theorem PoE.fin {d : D} {Q : VK} {v : V} (h : PoE X W va s σ HP H (.ok d s) Q) (r : Rel X.K va s σ HP H) (dv : Dv X.K HP v d) : Q v H := h v H HP (Stp.refl r) dv
theorem PoE.fin_at {d : D} {Q : VK} {v : V} (h : PoE X W va s σ HP H (.ok d s1) Q) (st : Stp X.K va s σ HP H s1 σ HP1 H1) (dv : Dv X.K HP1 v d) : Q v H1 := h v H1 HP1 st dv
theorem PoT.fin {d : Bool} {Q : Bool → Hp → Prop} (h : PoT X W va s σ HP H (.ok d s) Q) (r : Rel X.K va s σ HP H) : Q d H := h H HP (Stp.refl r)
end
end DL

namespace DL
open PySem PySem.Spec PyProof.Rows L2
def lift (o : Option D) (s : S) : R D := match o with
  | some d => .ok d s
  | none => .stuck
@[simp] theorem lift_some (d : D) (s : S) : lift (some d) s = .ok d s := rfl
@[simp] theorem lift_none (s : S) : lift none s = .stuck := rfl
def liftB (o : Option Bool) (s : S) : R Bool := match o with
  | some d => .ok d s
  | none => .stuck
@[simp] theorem liftB_some (d : Bool) (s : S) : liftB (some d) s = .ok d s := rfl
@[simp] theorem liftB_none (s : S) : liftB none s = .stuck := rfl
section
variable {X : Cx} {W : WX} {va : VA} {s : S} {σ : St} {HP H : Hp}
/-- ways to end with a datum -/
theorem fin_int {i : Int} {Q : VK} (h : PoE X W va s σ HP H (.ok (.int i) s) Q) (r : Rel X.K va s σ HP H) : Q (.int i) H := h.fin r (.int i)
theorem fin_bl {i : Bool} {Q : VK} (h : PoE X W va s σ HP H (.ok (.bl i) s) Q) (r : Rel X.K va s σ HP H) : Q (.bl i) H := h.fin r (.bl i)
theorem fin_str {i : Str} {Q : VK} (h : PoE X W va s σ HP H (.ok (.str i) s) Q) (r : Rel X.K va s σ HP H) : Q (.str i) H := h.fin r (.str i)
theorem fin_lst {vs : List V} {ds : List D} {Q : VK} (h : PoE X W va s σ HP H (.ok (.lst ds) s) Q) (r : Rel X.K va s σ HP H) (a : DvA X.K HP vs ds) (z : ds.length ≤ sizeLine) (p : Addr) (n : H p = none) : Q (.ref p) (upd H p (.lst vs)) := by
  have st := r.laid (o := .lst vs) n
  exact h _ _ _ st (.lst upd_same z (DvA.mono st.same ds vs a))
theorem fin_tup {vs : List V} {ds : List D} {Q : VK} (h : PoE X W va s σ HP H (.ok (.tup ds) s) Q) (r : Rel X.K va s σ HP H) (a : DvA X.K HP vs ds) (z : ds.length ≤ sizeLine) (p : Addr) (n : H p = none) : Q (.ref p) (upd H p (.tup vs)) := by
  have st := r.laid (o := .tup vs) n
  exact h _ _ _ st (.tup upd_same z (DvA.mono st.same ds vs a))
end
/-! ## two operands -/
def OpD (X : Cx) (f : Value → Value → Sem Value) (g : D → D → Option D) : Prop := ∃ r : R2, OpR X f r ∧
  ∀ (W : WX) (va : VA) (s : S) (σ : St) (HP H : Hp) (x y : V) (a b d : D) (Q : VK), Rel X.K va s σ HP H → Dv X.K HP x a → Dv X.K HP y b → g a b = some d → PoE X W va s σ HP H (.ok d s) Q → r x y H Q
theorem OpD.orElse {X : Cx} {f : Value → Value → Sem Value} {g g' : D → D → Option D} (h : OpD X f g) (h' : OpD X f g') : OpD X f (fun a b => (g a b).or (g' a b)) := by
  obtain ⟨r, h1, h2⟩ := h
  obtain ⟨r', h1', h2'⟩ := h'
  refine ⟨_, h1.or h1', fun W va s σ HP H x y a b d Q rl dx dy e p => ?_⟩
  cases c : g a b with
  | some z => simp only [c, Option.some_or, Option.some.injEq] at e; subst e; exact .inl (h2 W va s σ HP H x y a b z Q rl dx dy c p)
  | none => simp only [c, Option.none_or] at e; exact .inr (h2' W va s σ HP H x y a b d Q rl dx dy e p)
theorem OpD.imp {X : Cx} {f : Value → Value → Sem Value} {g g' : D → D → Option D} (h : OpD X f g) (i : ∀ a b d, g' a b = some d → g a b = some d) : OpD X f g' := by
  obtain ⟨r, h1, h2⟩ := h
  exact ⟨r, h1, fun W va s σ HP H x y a b d Q rl dx dy e p => h2 W va s σ HP H x y a b d Q rl dx dy (i a b d e) p⟩
section
variable {X : Cx} {W : WX} {a b c e : Expr} {es : List Expr} {fa fb fc : S → R D} {pos : Pos}
theorem de_bin {g : D → D → Option D} {r : R2} (h2 : ∀ (W : WX) (va : VA) (s : S) (σ : St) (HP H : Hp) (x y : V) (a b d : D) (Q : VK), Rel X.K va s σ HP H → Dv X.K HP x a → Dv X.K HP y b → g a b = some d → PoE X W va s σ HP H (.ok d s) Q → r x y H Q)
    (σ : St) (H : Hp) (Q : VK) (h : tDE X W (fun s => (fa s).bind fun x s => (fb s).bind fun y s => lift (g x y) s) σ H Q) : tOp r (tDE X W fa) (tDE X W fb) σ H Q := by
  obtain ⟨va, s, HP, rl, h⟩ := h
  dsimp only at h
  refine bindEE rl h fun x s1 v H1 HP1 st1 d1 h1 => ?_
  have rl1 := st1.rel
  refine bindE rl1 (fun y s2 u H2 HP2 e st d2 => ?_) (fun n p s' dd H' HP' C e st z m => ?_) (fun e => ?_) <;> rw [e] at h1
  · cases q : g x y with
    | none => rw [R.bind_ok, q] at h1; exact h1.elim
    | some d =>
      rw [R.bind_ok, q] at h1
      exact h2 W va s2 σ HP2 H2 v u x y d Q st.rel (Dv.mono st.same x v d1) d2 q (h1.from st)
  · exact h1 dd H' HP' C st z m
  · exact h1
theorem de_op {op : Operator} {g : D → D → Option D} (o : OpD X (binaryOp op) g) (ha : DE X W a fa) (hb : DE X W b fb) :
    DE X W (.BinOp a op b pos) (fun s => (fa s).bind fun x s => (fb s).bind fun y s => lift (g x y) s) := by
  obtain ⟨r, h1, h2⟩ := o
  exact pe_imp (pe_op h1 ha hb) fun σ H Q h => de_bin h2 σ H Q h
theorem de_cmp {op : CmpOp} {g : D → D → Option D} (o : OpD X (compareOp op) g) (ha : DE X W a fa) (hb : DE X W b fb) (hm : behindInMarks op b = false) :
    DE X W (.Compare a [op] [b] pos) (fun s => (fa s).bind fun x s => (fb s).bind fun y s => lift (g x y) s) := by
  obtain ⟨r, h1, h2⟩ := o
  exact pe_imp (pe_cmpR h1 ha hb hm) fun σ H Q h => de_bin h2 σ H Q h
def toB (d : D) (s : S) : R Bool := match d with
  | .bl b => .ok b s
  | _ => .stuck
@[simp] theorem toB_bl (b : Bool) (s : S) : toB (.bl b) s = .ok b s := rfl
theorem tB_of {f : S → R D} {σ : St} {H : Hp} {Q : Bool → Hp → Prop} (h : tDT X W (fun s => (f s).bind toB) σ H Q) : tDE X W f σ H fun x H' => ∃ k, x = .bl k ∧ Q k H' := by
  obtain ⟨va, s, HP, rl, h⟩ := h
  dsimp only at h
  refine bindET rl h fun d s1 v H1 HP1 st1 d1 h1 => ?_
  have rl1 := st1.rel
  cases d1 <;> first | exact h1.elim | exact ⟨_, rfl, h1.fin rl1⟩
/-- a comparison as a test -/
theorem dt_cmp {op : CmpOp} {g : D → D → Option D} (o : OpD X (compareOp op) g) (ha : DE X W a fa) (hb : DE X W b fb) (hm : behindInMarks op b = false) :
    DT X W (.Compare a [op] [b] pos) (fun s => ((fa s).bind fun x s => (fb s).bind fun y s => lift (g x y) s).bind toB) := by
  obtain ⟨r, h1, h2⟩ := o
  exact pt_imp (pt_cmpR h1 ha hb hm) fun σ H Q h => de_bin h2 σ H _ (tB_of h)
/-- an expression that gives a bool, as a test -/
theorem dt_val (h : DE X W e fa) (he : ∀ whole, isTrue e X.env whole = (do let v ← whole; standAt e.pos; holding [v] (truthy v)) := by intro _; rfl) :
    DT X W e (fun s => (fa s).bind toB) := pt_imp (pt_val h he) fun σ H Q q => tB_of q
/-! ## and, or, not, if -/
variable {ta tb tc : S → R Bool} {rest : List Expr}
theorem dw_and1 (ha : DT X W a ta) : DW X W (.BoolOp .And [a] pos) ta := pw_and1 ha
theorem dw_or1 (ha : DT X W a ta) : DW X W (.BoolOp .Or [a] pos) ta := pw_or1 ha
theorem dw_and (ha : DT X W a ta) (hb : DW X W (.BoolOp .And (b :: rest) pos) tb) : DW X W (.BoolOp .And (a :: b :: rest) pos) (fun s => (ta s).bind fun k s => if k = true then tb s else .ok false s) := by
  refine pw_imp (pw_and ha hb) fun σ H Q h => ?_
  obtain ⟨va, s, HP, rl, h⟩ := h
  dsimp only at h
  refine bindTT rl h fun k s1 H1 HP1 st1 h1 => ?_
  have rl1 := st1.rel
  cases k with
  | true => rw [if_pos rfl] at h1 ⊢; exact ⟨va, s1, HP1, rl1, h1⟩
  | false => rw [if_neg Bool.false_ne_true] at h1 ⊢; exact h1.fin rl1
theorem dw_or (ha : DT X W a ta) (hb : DW X W (.BoolOp .Or (b :: rest) pos) tb) : DW X W (.BoolOp .Or (a :: b :: rest) pos) (fun s => (ta s).bind fun k s => if k = true then .ok true s else tb s) := by
  refine pw_imp (pw_or ha hb) fun σ H Q h => ?_
  obtain ⟨va, s, HP, rl, h⟩ := h
  dsimp only at h
  refine bindTT rl h fun k s1 H1 HP1 st1 h1 => ?_
  have rl1 := st1.rel
  cases k with
  | true => rw [if_pos rfl] at h1 ⊢; exact h1.fin rl1
  | false => rw [if_neg Bool.false_ne_true] at h1 ⊢; exact ⟨va, s1, HP1, rl1, h1⟩
theorem dt_w (h : DW X W a ta) : DT X W a ta := h.pt
theorem dt_not (ha : DT X W a ta) : DT X W (.UnaryOp .Not a pos) (fun s => (ta s).bind fun k s => .ok (!k) s) := by
  refine pt_imp (pt_not ha) fun σ H Q h => ?_
  obtain ⟨va, s, HP, rl, h⟩ := h
  dsimp only at h
  exact bindTT rl h fun k s1 H1 HP1 st1 h1 => h1.fin st1.rel
/-- as values, all but the last True or False -/
theorem de_one {op} (h : DE X W a fa) : DE X W (.BoolOp op [a] pos) fa := pe_one h
theorem de_and (ha : DE X W a fa) (hb : DE X W (.BoolOp .And (b :: rest) pos) fb) : DE X W (.BoolOp .And (a :: b :: rest) pos) (fun s => ((fa s).bind toB).bind fun k s => if k = true then fb s else .ok (.bl false) s) := by
  refine pe_imp (pe_and ha hb) fun σ H Q h => ?_
  obtain ⟨va, s, HP, rl, h⟩ := h
  dsimp only at h
  refine bindE rl (fun d s1 v H1 HP1 e st dv => ?_) (fun n p s' dd H' HP' C e st z m => ?_) (fun e => ?_) <;> rw [e] at h
  · cases dv <;> first | exact h.elim | skip
    rename_i k
    refine ⟨k, rfl, ?_⟩
    have h1 := PoE.from st h
    cases k with
    | true => rw [if_pos rfl]; exact ⟨va, s1, HP1, st.rel, h1⟩
    | false => rw [if_neg Bool.false_ne_true]; exact fin_bl h1 st.rel
  · exact h dd H' HP' C st z m
  · exact h
theorem de_or (ha : DE X W a fa) (hb : DE X W (.BoolOp .Or (b :: rest) pos) fb) : DE X W (.BoolOp .Or (a :: b :: rest) pos) (fun s => ((fa s).bind toB).bind fun k s => if k = true then .ok (.bl true) s else fb s) := by
  refine pe_imp (pe_or ha hb) fun σ H Q h => ?_
  obtain ⟨va, s, HP, rl, h⟩ := h
  dsimp only at h
  refine bindE rl (fun d s1 v H1 HP1 e st dv => ?_) (fun n p s' dd H' HP' C e st z m => ?_) (fun e => ?_) <;> rw [e] at h
  · cases dv <;> first | exact h.elim | skip
    rename_i k
    refine ⟨k, rfl, ?_⟩
    have h1 := PoE.from st h
    cases k with
    | true => rw [if_pos rfl]; exact fin_bl h1 st.rel
    | false => rw [if_neg Bool.false_ne_true]; exact ⟨va, s1, HP1, st.rel, h1⟩
  · exact h dd H' HP' C st z m
  · exact h
theorem de_not (ha : DE X W a fa) : DE X W (.UnaryOp .Not a pos) (fun s => ((fa s).bind toB).bind fun k s => .ok (.bl (!k)) s) := by
  refine pe_imp (pe_not ha) fun σ H Q h => ?_
  obtain ⟨va, s, HP, rl, h⟩ := h
  dsimp only at h
  refine bindE rl (fun d s1 v H1 HP1 e st dv => ?_) (fun n p s' dd H' HP' C e st z m => ?_) (fun e => ?_) <;> rw [e] at h
  · cases dv <;> first | exact h.elim | skip
    rename_i k
    exact ⟨k, rfl, fin_bl (PoE.from st h) st.rel⟩
  · exact h dd H' HP' C st z m
  · exact h
theorem de_if (hc : DT X W c tc) (ha : DE X W a fa) (hb : DE X W b fb) : DE X W (.IfExp c a b pos) (fun s => (tc s).bind fun k s => if k = true then fa s else fb s) := by
  refine pe_imp (pe_ifExp hc ha hb) fun σ H Q h => ?_
  obtain ⟨va, s, HP, rl, h⟩ := h
  dsimp only at h
  refine bindTE rl h fun k s1 H1 HP1 st1 h1 => ?_
  have rl1 := st1.rel
  cases k with
  | true => rw [if_pos rfl] at h1 ⊢; exact ⟨va, s1, HP1, rl1, h1⟩
  | false => rw [if_neg Bool.false_ne_true] at h1 ⊢; exact ⟨va, s1, HP1, rl1, h1⟩
/-! ## constants -/
theorem de_int {i : Int} {j : Nat} : DE X W (.Constant (.int i) j pos) (fun s => .ok (.int i) s) := pe_imp pe_int fun σ H Q ⟨va, s, HP, rl, h⟩ => fin_int h rl
theorem de_bl {i : Bool} {j : Nat} : DE X W (.Constant (.bool i) j pos) (fun s => .ok (.bl i) s) := pe_imp pe_bl fun σ H Q ⟨va, s, HP, rl, h⟩ => fin_bl h rl
theorem de_non {j : Nat} : DE X W (.Constant .none j pos) (fun s => .ok .non s) := pe_imp pe_non fun σ H Q ⟨va, s, HP, rl, h⟩ => h.fin rl .non
theorem de_str {i : Str} {j : Nat} : DE X W (.Constant (.str i) j pos) (fun s => .ok (.str i) s) := pe_imp pe_str fun σ H Q ⟨va, s, HP, rl, h⟩ => fin_str h rl
/-- a constant of the module: an int, a text -/
theorem de_gint {x : Str} {i : Int} {t : Tok} (hg : Gl X x) (hm : X.mg x = some (.int i t)) (hd : (x == ("__debug__" : Str)) = false := by decide) : DE X W (.Name x pos) (fun s => .ok (.int i) s) :=
  pe_imp (pe_glob (v := .int i) hg hm ⟨t, rfl⟩ hd) fun σ H Q ⟨va, s, HP, rl, h⟩ => fin_int h rl
theorem de_gstr {x z : Str} {t : Tok} (hg : Gl X x) (hm : X.mg x = some (.str z t)) (hd : (x == ("__debug__" : Str)) = false := by decide) : DE X W (.Name x pos) (fun s => .ok (.str z) s) :=
  pe_imp (pe_glob (v := .str z) hg hm ⟨t, rfl⟩ hd) fun σ H Q ⟨va, s, HP, rl, h⟩ => fin_str h rl
/-! ## argument lists, displays -/
variable {ga : S → R (List D)}
theorem da_nil : DA X W [] (fun s => .ok [] s) := pa_imp pa_nil fun σ H Q ⟨va, s, HP, rl, h⟩ => h [] H HP (Stp.refl rl) .nil
theorem da_cons (ha : DE X W e fa) (hr : DA X W es ga) (hs : starEach (e :: es) X.env = (false, eval e X.env) :: starEach es X.env := by rfl) : DA X W (e :: es) (fun s => (fa s).bind fun x s => (ga s).bind fun xs s => .ok (x :: xs) s) := by
  refine pa_imp (pa_cons ha hr hs) fun σ H Q h => ?_
  obtain ⟨va, s, HP, rl, h⟩ := h
  dsimp only at h
  refine bindEA rl h fun d s1 v H1 HP1 st1 dv h1 => ?_
  have rl1 := st1.rel
  refine bindA rl1 (fun ds s2 vs H2 HP2 e st dvs => ?_) (fun n p s' dd H' HP' C e st z m => ?_) (fun e => ?_) <;> rw [e] at h1
  · exact h1 (v :: vs) H2 HP2 st (.cons (Dv.mono st.same d v dv) dvs)
  · exact h1 dd H' HP' C st z m
  · exact h1
def mkT (ds : List D) (s : S) : R D := if ds.length ≤ sizeLine then .ok (.tup ds) s else .stuck
def mkL (ds : List D) (s : S) : R D := if ds.length ≤ sizeLine then .ok (.lst ds) s else .stuck
theorem mkT_of {ds : List D} {s : S} (h : ds.length ≤ 1000) : mkT ds s = .ok (.tup ds) s := if_pos (Nat.le_of_lt (small1000 h))
theorem mkL_of {ds : List D} {s : S} (h : ds.length ≤ 1000) : mkL ds s = .ok (.lst ds) s := if_pos (Nat.le_of_lt (small1000 h))
theorem de_tup {x1} (h : DA X W es ga) : DE X W (.Tuple es x1 pos) (fun s => (ga s).bind mkT) := by
  refine pe_imp (pe_tup h) fun σ H Q q => ?_
  obtain ⟨va, s, HP, rl, q⟩ := q
  refine bindAE rl q fun ds s1 vs H1 HP1 rl1 dv q1 => ?_
  unfold mkT at q1
  split at q1
  · exact ⟨by rw [dv.length]; assumption, fun p hp => fin_tup q1 rl1.rel dv (by assumption) p hp⟩
  · exact q1.elim
theorem de_lst (h : DA X W es ga) : DE X W (.List es pos) (fun s => (ga s).bind mkL) := by
  refine pe_imp (pe_lst h) fun σ H Q q => ?_
  obtain ⟨va, s, HP, rl, q⟩ := q
  refine bindAE rl q fun ds s1 vs H1 HP1 rl1 dv q1 => ?_
  unfold mkL at q1
  split at q1
  · exact ⟨by rw [dv.length]; assumption, fun p hp => fin_lst q1 rl1.rel dv (by assumption) p hp⟩
  · exact q1.elim
end
end DL

namespace DL
open PySem PySem.Spec PyProof.Rows L2
/-! ## arithmetic -/
def addI : D → D → Option D
  | .int i, .int j => some (.int (i + j))
  | _, _ => none
def addS : D → D → Option D
  | .str i, .str j => if i.length + j.length ≤ sizeLine then some (.str (i ++ j)) else none
  | _, _ => none
def addT : D → D → Option D
  | .tup i, .tup j => if i.length + j.length ≤ sizeLine then some (.tup (i ++ j)) else none
  | _, _ => none
def addL : D → D → Option D
  | .lst i, .lst j => if i.length + j.length ≤ sizeLine then some (.lst (i ++ j)) else none
  | _, _ => none
def opAdd : D → D → Option D
  | .int i, .int j => some (.int (i + j))
  | .str i, .str j => if i.length + j.length ≤ sizeLine then some (.str (i ++ j)) else none
  | .tup i, .tup j => if i.length + j.length ≤ sizeLine then some (.tup (i ++ j)) else none
  | .lst i, .lst j => if i.length + j.length ≤ sizeLine then some (.lst (i ++ j)) else none
  | _, _ => none
def opSub : D → D → Option D
  | .int i, .int j => some (.int (i - j))
  | _, _ => none
def okMul (i j : Int) : Bool := decide (i.natAbs.log2 + j.natAbs.log2 < 1000000)
def opMul : D → D → Option D
  | .int i, .int j => if okMul i j then some (.int (i * j)) else none
  | .tup xs, .int k => if xs ≠ [] ∧ 2 ≤ k ∧ k ≤ 1000 ∧ xs.length ≤ 1000 then some (.tup (List.replicate k.toNat xs).flatten) else none
  | .lst xs, .int k => if 0 ≤ k ∧ k ≤ 1000 ∧ xs.length ≤ 1000 then some (.lst (List.replicate k.toNat xs).flatten) else none
  | _, _ => none
def opDiv : D → D → Option D
  | .int i, .int j => if 0 < j ∧ j.natAbs.log2 < 9000 then some (.int (i / j)) else none
  | _, _ => none
def opMod : D → D → Option D
  | .int i, .int j => if 0 < j then some (.int (i % j)) else none
  | _, _ => none
def opPow : D → D → Option D
  | .int i, .int j => if 0 ≤ j ∧ j ≤ 1000000 ∧ i.natAbs < 2 ^ 64 then some (.int (i ^ j.toNat)) else none
  | _, _ => none
section
variable {K : PySem.W.Frag} {HP H : Hp}
theorem DvA.rep2 {vs : List V} {ds : List D} (h : DvA K H vs ds) : ∀ n : Nat, DvA K H (List.replicate n vs).flatten (List.replicate n ds).flatten
  | 0 => .nil
  | n + 1 => by
    rw [List.replicate_succ, List.replicate_succ, List.flatten_cons, List.flatten_cons]
    exact h.append (DvA.rep2 h n)
theorem rep_len {α : Type} {xs : List α} {k : Int} (h : xs.length ≤ 1000) (h2 : k ≤ 1000) : (List.replicate k.toNat xs).flatten.length ≤ sizeLine := by
  rw [List.length_flatten, List.map_replicate, List.sum_replicate_nat]
  exact Nat.le_trans (Nat.mul_le_mul (Int.toNat_le.mpr h2) h) (show 1000 * 1000 ≤ 16777216 by decide)
theorem DvA.nil_iff {vs : List V} {ds : List D} (h : DvA K H vs ds) : vs = [] ↔ ds = [] := by cases h <;> simp
end
section
variable {X : Cx} {W : WX} {a b c e : Expr} {fa fb fc : S → R D} {pos : Pos}
theorem od_addI : OpD X (binaryOp .Add) addI := by
  refine ⟨_, op_add, fun W va s σ HP H x y a b d Q rl dx dy e p => ?_⟩
  unfold addI at e
  split at e <;> cases e
  cases dx; cases dy
  exact ⟨_, _, rfl, rfl, fin_int p rl⟩
theorem od_addS : OpD X (binaryOp .Add) addS := by
  refine ⟨_, op_add_str, fun W va s σ HP H x y a b d Q rl dx dy e p => ?_⟩
  unfold addS at e
  split at e
  · split at e <;> cases e
    cases dx; cases dy
    exact ⟨_, _, rfl, rfl, by assumption, fin_str p rl⟩
  · cases e
theorem od_addT : OpD X (binaryOp .Add) addT := by
  refine ⟨_, op_catA, fun W va s σ HP H x y a b d Q rl dx dy e p => ?_⟩
  unfold addT at e
  split at e
  · split at e <;> cases e
    rename_i hz
    cases dx with
    | @tup a xs ds h1 y1 a1 =>
      cases dy with
      | @tup b ys es h2 y2 a2 =>
        refine ⟨a, b, xs, ys, rfl, rfl, SqT.of (rl.sub _ _ h1), SqT.of (rl.sub _ _ h2), by rw [a1.length, a2.length]; exact hz, fun z => ?_, fun _ z => ?_, fun _ _ q hq => fin_tup p rl (a1.append a2) (by rw [List.length_append]; exact hz) q hq⟩
        · have := a1.nil_iff.mp z
          subst this
          exact p.fin rl (.tup h2 y2 a2)
        · have := a2.nil_iff.mp z
          subst this
          rw [List.append_nil] at p
          exact p.fin rl (.tup h1 y1 a1)
  · cases e
theorem od_addL : OpD X (binaryOp .Add) addL := by
  refine ⟨_, op_cat, fun W va s σ HP H x y a b d Q rl dx dy e p => ?_⟩
  unfold addL at e
  split at e
  · split at e <;> cases e
    rename_i hz
    cases dx with
    | @lst a xs ds h1 y1 a1 =>
      cases dy with
      | @lst b ys es h2 y2 a2 =>
        exact ⟨a, b, xs, ys, rfl, rfl, rl.sub _ _ h1, rl.sub _ _ h2, by rw [a1.length, a2.length]; exact hz, fun q hq => fin_lst p rl (a1.append a2) (by rw [List.length_append]; exact hz) q hq⟩
  · cases e
theorem od_add : OpD X (binaryOp .Add) opAdd := by
  refine (((od_addI.orElse od_addS).orElse od_addT).orElse od_addL).imp fun a b d e => ?_
  unfold opAdd at e
  split at e
  · exact e
  · simp only [addI, addS, addT, addL, Option.none_or, Option.or_none]; exact e
  · simp only [addI, addS, addT, addL, Option.none_or, Option.or_none]; exact e
  · simp only [addI, addS, addT, addL, Option.none_or, Option.or_none]; exact e
  · cases e
theorem od_sub : OpD X (binaryOp .Sub) opSub := by
  refine ⟨_, op_sub, fun W va s σ HP H x y a b d Q rl dx dy e p => ?_⟩
  unfold opSub at e
  split at e <;> cases e
  cases dx; cases dy
  exact ⟨_, _, rfl, rfl, fin_int p rl⟩
theorem od_mul : OpD X (binaryOp .Mult) opMul := by
  refine ⟨_, (op_mulW.or op_repT).or op_rep, fun W va s σ HP H x y a b d Q rl dx dy e p => ?_⟩
  unfold opMul at e
  split at e
  · split at e <;> cases e
    rename_i hz
    cases dx; cases dy
    exact .inl (.inl ⟨_, _, rfl, rfl, (show CMulW _ _ from of_decide_eq_true (p := _ < 1000000) hz), fin_int p rl⟩)
  · split at e <;> cases e
    rename_i hz
    cases dx with
    | @tup a xs ds h1 y1 a1 =>
      cases dy
      obtain ⟨z1, z2, z3, z4⟩ := hz
      exact .inl (.inr ⟨a, _, xs, rfl, rfl, SqT.of (rl.sub _ _ h1), fun q => z1 (a1.nil_iff.mp q), z2, z3, by rw [a1.length]; exact z4, fun q hq => fin_tup p rl (a1.rep2 _) (rep_len z4 z3) q hq⟩)
  · split at e <;> cases e
    rename_i hz
    cases dx with
    | @lst a xs ds h1 y1 a1 =>
      cases dy
      obtain ⟨z2, z3, z4⟩ := hz
      refine .inr ⟨a, _, xs, rfl, rfl, rl.sub _ _ h1, by omega, by omega, ?_, fun q hq => fin_lst p rl (a1.rep2 _) (rep_len z4 z3) q hq⟩
      have h9 : xs.length ≤ 1000 := by rw [a1.length]; exact z4
      exact Nat.le_trans (Nat.mul_le_mul h9 (Int.toNat_le.mpr z3)) (show 1000 * 1000 ≤ 16777216 by decide)
  · cases e
theorem od_div : OpD X (binaryOp .FloorDiv) opDiv := by
  refine ⟨_, op_fdivW, fun W va s σ HP H x y a b d Q rl dx dy e p => ?_⟩
  unfold opDiv at e
  split at e
  · split at e <;> cases e
    rename_i hz
    cases dx; cases dy
    exact ⟨_, _, rfl, rfl, hz, fin_int p rl⟩
  · cases e
theorem od_mod : OpD X (binaryOp .Mod) opMod := by
  refine ⟨_, op_mod, fun W va s σ HP H x y a b d Q rl dx dy e p => ?_⟩
  unfold opMod at e
  split at e
  · split at e <;> cases e
    rename_i hz
    cases dx; cases dy
    exact ⟨_, _, rfl, rfl, hz, fin_int p rl⟩
  · cases e
theorem od_pow : OpD X (binaryOp .Pow) opPow := by
  refine ⟨_, op_pow, fun W va s σ HP H x y a b d Q rl dx dy e p => ?_⟩
  unfold opPow at e
  split at e
  · split at e <;> cases e
    rename_i hz
    cases dx; cases dy
    exact ⟨_, _, rfl, rfl, hz, fin_int p rl⟩
  · cases e
def opNeg : D → Option D
  | .int i => some (.int (-i))
  | _ => none
theorem de_neg (ha : DE X W a fa) : DE X W (.UnaryOp .USub a pos) (fun s => (fa s).bind fun x s => lift (opNeg x) s) := by
  refine pe_imp (pe_un un_neg ha) fun σ H Q h => ?_
  obtain ⟨va, s, HP, rl, h⟩ := h
  refine bindEE rl h fun x s1 v H1 HP1 st1 d1 h1 => ?_
  have rl1 := st1.rel
  cases d1 <;> first | exact h1.elim | exact ⟨_, rfl, fin_int h1 rl1⟩
/-! ## comparisons of ints -/
def opLt : D → D → Option D
  | .int i, .int j => some (.bl (decide (i < j)))
  | _, _ => none
def opLe : D → D → Option D
  | .int i, .int j => some (.bl (decide (i ≤ j)))
  | _, _ => none
def opGt : D → D → Option D
  | .int i, .int j => some (.bl (decide (j < i)))
  | _, _ => none
def opGe : D → D → Option D
  | .int i, .int j => some (.bl (decide (j ≤ i)))
  | _, _ => none
theorem od_lt : OpD X (compareOp .Lt) opLt := by
  refine ⟨_, op_lt, fun W va s σ HP H x y a b d Q rl dx dy e p => ?_⟩
  unfold opLt at e
  split at e <;> cases e
  cases dx; cases dy
  exact ⟨_, _, rfl, rfl, fin_bl p rl⟩
theorem od_le : OpD X (compareOp .LtE) opLe := by
  refine ⟨_, op_le, fun W va s σ HP H x y a b d Q rl dx dy e p => ?_⟩
  unfold opLe at e
  split at e <;> cases e
  cases dx; cases dy
  exact ⟨_, _, rfl, rfl, fin_bl p rl⟩
theorem od_gt : OpD X (compareOp .Gt) opGt := by
  refine ⟨_, op_gt, fun W va s σ HP H x y a b d Q rl dx dy e p => ?_⟩
  unfold opGt at e
  split at e <;> cases e
  cases dx; cases dy
  exact ⟨_, _, rfl, rfl, fin_bl p rl⟩
theorem od_ge : OpD X (compareOp .GtE) opGe := by
  refine ⟨_, op_ge, fun W va s σ HP H x y a b d Q rl dx dy e p => ?_⟩
  unfold opGe at e
  split at e <;> cases e
  cases dx; cases dy
  exact ⟨_, _, rfl, rfl, fin_bl p rl⟩
/-! ## is None, is a bool -/
def opIs : D → D → Option D
  | .ref _, _ => none
  | .scr _, _ => none
  | .lam _ _ _, _ => none
  | .non, .non => some (.bl true)
  | _, .non => some (.bl false)
  | .bl i, .bl j => some (.bl (decide (i = j)))
  | _, _ => none
def opIsNot : D → D → Option D
  | .ref _, _ => none
  | .scr _, _ => none
  | .lam _ _ _, _ => none
  | .non, .non => some (.bl false)
  | _, .non => some (.bl true)
  | .bl i, .bl j => some (.bl (!decide (i = j)))
  | _, _ => none
theorem od_is : OpD X (compareOp .Is) opIs := by
  refine ⟨_, op_isN.or op_isBl, fun W va s σ HP H x y a b d Q rl dx dy e p => ?_⟩
  unfold opIs at e
  split at e <;> cases e
  · cases dx; cases dy; exact .inl ⟨rfl, fin_bl p rl⟩
  · rename_i h1 h2 h3
    cases dy
    refine .inl ⟨rfl, ?_⟩
    rw [decide_eq_false (fun z => ?_)]
    · exact fin_bl p rl
    · subst z; cases dx; exact h3 rfl
  · cases dx; cases dy; exact .inr ⟨_, _, rfl, rfl, fin_bl p rl⟩
theorem od_isnot : OpD X (compareOp .IsNot) opIsNot := by
  refine ⟨_, op_notN.or op_notBl, fun W va s σ HP H x y a b d Q rl dx dy e p => ?_⟩
  unfold opIsNot at e
  split at e <;> cases e
  · cases dx; cases dy; exact .inl ⟨rfl, fin_bl p rl⟩
  · rename_i h1 h2 h3
    cases dy
    refine .inl ⟨rfl, ?_⟩
    rw [decide_eq_false (fun z => ?_)]
    · exact fin_bl p rl
    · subst z; cases dx; exact h3 rfl
  · cases dx; cases dy; exact .inr ⟨_, _, rfl, rfl, fin_bl p rl⟩
/-! ## chains -/
theorem tB_of' {f : S → R D} {va : VA} {s : S} {σ : St} {HP H : Hp} {Q : Bool → Hp → Prop} (h : PoT X W va s σ HP H ((f s).bind toB) Q) : PoE X W va s σ HP H (f s) fun x H' => ∃ k, x = .bl k ∧ Q k H' := by
  cases e : f s with
  | ok d s' =>
    rw [e] at h
    intro v H' HP' st dv
    cases dv <;> first | exact h.elim | exact ⟨_, rfl, h H' HP' st⟩
  | exc n p s' => rw [e] at h; exact h
  | stuck => rw [e] at h; exact h
def ChV (X : Cx) (W : WX) (ops : List CmpOp) (rs : List (Sem Value)) (g : D → S → R D) : Prop :=
  ∀ (pos : Pos) (pins : List (Addr × Obj)) (s : Shared) (va : VA) (st : S) (σ : St) (HP H : Hp) (y : D) (x : V) (v : Value) (Q : VK), Inv X pins σ H s → Rel X.K va st σ HP H → Dv X.K HP x y → RelV x v → PoE X W va st σ HP H (g y st) Q →
    wpAny (model X.prog X.w) X.A (compareChain pos v ops rs) (EP X pins σ Q) X.xe s
def ChT (X : Cx) (W : WX) (ops : List CmpOp) (rs : List (Sem Value)) (g : D → S → R Bool) : Prop :=
  ∀ (pos : Pos) (pins : List (Addr × Obj)) (s : Shared) (va : VA) (st : S) (σ : St) (HP H : Hp) (y : D) (x : V) (v : Value) (Q : Bool → Hp → Prop), Inv X pins σ H s → Rel X.K va st σ HP H → Dv X.K HP x y → RelV x v → PoT X W va st σ HP H (g y st) Q →
    wpAny (model X.prog X.w) X.A (testChain pos v ops rs) (TP X pins σ Q) X.xe s
theorem chv_last {op : CmpOp} {g : D → D → Option D} (o : OpD X (compareOp op) g) (hc : DE X W c fc) : ChV X W [op] [eval c X.env] (fun y s => (fc s).bind fun z s => lift (g y z) s) := by
  obtain ⟨r, h1, h2⟩ := o
  intro pos pins s va st σ HP H y x v Q I rl dx rx h
  refine chain_last (thn (hc.run pins s σ H _ I (bindEE (R := fun w H2 => r x w H2 Q) rl h fun z s1 w H1 HP1 st1 d1 hz => ?_)) fun u s2 ⟨w, H2, I2, r2, q2⟩ => h1 pins s2 σ H2 x w v u _ I2 rx r2 q2)
  cases q : g y z with
  | none => rw [q] at hz; exact hz.elim
  | some d => rw [q] at hz; exact h2 W va s1 σ HP1 H1 x w y z d Q st1.rel (Dv.mono st1.same y x dx) d1 q hz
theorem cht_last {op : CmpOp} {g : D → D → Option D} (o : OpD X (compareOp op) g) (hc : DE X W c fc) : ChT X W [op] [eval c X.env] (fun y s => ((fc s).bind fun z s => lift (g y z) s).bind toB) := by
  obtain ⟨r, h1, h2⟩ := o
  intro pos pins s va st σ HP H y x v Q I rl dx rx h
  refine test_last (thn (hc.run pins s σ H _ I (bindEE (R := fun w H2 => r x w H2 fun t H3 => ∃ k, t = .bl k ∧ Q k H3) rl (tB_of' (f := fun s => (fc s).bind fun z s => lift (g y z) s) h) fun z s1 w H1 HP1 st1 d1 hz => ?_)) fun u s2 ⟨w, H2, I2, r2, q2⟩ => thn (h1 pins s2 σ H2 x w v u _ I2 rx r2 q2) fun t s3 ⟨z, H3, I3, r3, k, e, q3⟩ => ?_)
  · cases q : g y z with
    | none => rw [q] at hz; exact hz.elim
    | some d => rw [q] at hz; exact h2 W va s1 σ HP1 H1 x w y z d _ st1.rel (Dv.mono st1.same y x dx) d1 q hz
  · subst e
    cases r3
    exact wpAny_truthy_bool ⟨H3, I3, q3⟩
theorem chv_link {op op' : CmpOp} {ops : List CmpOp} {b' : Sem Value} {rs : List (Sem Value)} {g : D → D → Option D} {k : D → S → R D} (o : OpD X (compareOp op) g) (hb : DE X W b fb) (hr : ChV X W (op' :: ops) (b' :: rs) k) :
    ChV X W (op :: op' :: ops) (eval b X.env :: b' :: rs) (fun x s => (fb s).bind fun y s => ((lift (g x y) s).bind toB).bind fun c s => if c = true then k y s else .ok (.bl false) s) := by
  obtain ⟨r, h1, h2⟩ := o
  intro pos pins s va st σ HP H x xv v Q I rl dx rx h
  refine chain_link (thn (hb.run pins s σ H _ I (bindEE (R := fun w H2 => r xv w H2 fun t H3 => ∃ c y s1 HP1, t = .bl c ∧ Rel X.K va s1 σ HP1 H3 ∧ Dv X.K HP1 w y ∧ PoE X W va s1 σ HP1 H3 (if c = true then k y s1 else .ok (.bl false) s1) Q) rl h fun y s1 w H1 HP1 st1 d1 hz => ?_)) fun u s2 ⟨w, H2, I2, r2, q2⟩ => thn (h1 pins s2 σ H2 xv w v u _ I2 rx r2 q2) fun t s3 ⟨z, H3, I3, r3, c, y, s1, HP1, e, rl3, d3, q3⟩ => ?_)
  · cases q : g x y with
    | none => rw [q] at hz; exact hz.elim
    | some d =>
      rw [q] at hz
      refine h2 W va s1 σ HP1 H1 xv w x y d _ st1.rel (Dv.mono st1.same x xv dx) d1 q fun t H3 HP3 st3 d3 => ?_
      cases d3 <;> first | exact hz.elim | skip
      exact ⟨_, y, s1, HP3, rfl, st3.rel, Dv.mono st3.same y w d1, PoE.from st3 hz⟩
  · subst e
    cases r3
    refine wpAny_truthy_bool ?_
    cases c with
    | false => exact ⟨.bl false, H3, I3, rfl, q3.fin rl3 (.bl false)⟩
    | true => exact hr pos pins s3 va s1 σ HP1 H3 y w u Q I3 rl3 d3 r2 q3
theorem cht_link {op op' : CmpOp} {ops : List CmpOp} {b' : Sem Value} {rs : List (Sem Value)} {g : D → D → Option D} {k : D → S → R Bool} (o : OpD X (compareOp op) g) (hb : DE X W b fb) (hr : ChT X W (op' :: ops) (b' :: rs) k) :
    ChT X W (op :: op' :: ops) (eval b X.env :: b' :: rs) (fun x s => (fb s).bind fun y s => ((lift (g x y) s).bind toB).bind fun c s => if c = true then k y s else .ok false s) := by
  obtain ⟨r, h1, h2⟩ := o
  intro pos pins s va st σ HP H x xv v Q I rl dx rx h
  refine test_link (thn (hb.run pins s σ H _ I (bindET (R := fun w H2 => r xv w H2 fun t H3 => ∃ c y s1 HP1, t = .bl c ∧ Rel X.K va s1 σ HP1 H3 ∧ Dv X.K HP1 w y ∧ PoT X W va s1 σ HP1 H3 (if c = true then k y s1 else .ok false s1) Q) rl h fun y s1 w H1 HP1 st1 d1 hz => ?_)) fun u s2 ⟨w, H2, I2, r2, q2⟩ => thn (h1 pins s2 σ H2 xv w v u _ I2 rx r2 q2) fun t s3 ⟨z, H3, I3, r3, c, y, s1, HP1, e, rl3, d3, q3⟩ => ?_)
  · cases q : g x y with
    | none => rw [q] at hz; exact hz.elim
    | some d =>
      rw [q] at hz
      refine h2 W va s1 σ HP1 H1 xv w x y d _ st1.rel (Dv.mono st1.same x xv dx) d1 q fun t H3 HP3 st3 d3 => ?_
      cases d3 <;> first | exact hz.elim | skip
      exact ⟨_, y, s1, HP3, rfl, st3.rel, Dv.mono st3.same y w d1, PoT.from st3 hz⟩
  · subst e
    cases r3
    refine wpAny_truthy_bool ?_
    cases c with
    | false => exact ⟨H3, I3, q3.fin rl3⟩
    | true => exact hr pos pins s3 va s1 σ HP1 H3 y w u Q I3 rl3 d3 r2 q3
/-- a < b < .. -/
theorem de_chain {op op' : CmpOp} {ops : List CmpOp} {b' : Expr} {bs : List Expr} {k : D → S → R D} (ha : DE X W a fa) (hr : ChV X W (op :: op' :: ops) (eval b X.env :: eval b' X.env :: evalEach bs X.env) k)
    (hm : lastMarks (op :: op' :: ops) (b :: b' :: bs) = false := by with_unfolding_all rfl) : DE X W (.Compare a (op :: op' :: ops) (b :: b' :: bs) pos) (fun s => (fa s).bind k) := by
  refine ⟨fun pins s σ H Q I h => ?_⟩
  obtain ⟨va, st, HP, rl, h⟩ := h
  refine Compare_chain (thn (ha.run pins s σ H _ I (bindEE (R := fun v H1 => ∃ x s1 HP1, Rel X.K va s1 σ HP1 H1 ∧ Dv X.K HP1 v x ∧ PoE X W va s1 σ HP1 H1 (k x s1) Q) rl h fun x s1 v H1 HP1 st1 d1 h1 => ⟨x, s1, HP1, st1.rel, d1, h1⟩)) fun u s2 ⟨v, H2, I2, r2, x, s1, HP1, rl1, d1, h1⟩ => ?_) hm
  exact hr pos pins s2 va s1 σ HP1 H2 x v u Q I2 rl1 d1 r2 h1
theorem dt_chain {op op' : CmpOp} {ops : List CmpOp} {b' : Expr} {bs : List Expr} {k : D → S → R Bool} (ha : DE X W a fa) (hr : ChT X W (op :: op' :: ops) (eval b X.env :: eval b' X.env :: evalEach bs X.env) k)
    (hm : lastMarks (op :: op' :: ops) (b :: b' :: bs) = false := by with_unfolding_all rfl) : DT X W (.Compare a (op :: op' :: ops) (b :: b' :: bs) pos) (fun s => (fa s).bind k) := by
  refine ⟨fun pins s σ H Q I h => ?_⟩
  obtain ⟨va, st, HP, rl, h⟩ := h
  refine isTrue_chain (thn (ha.run pins s σ H _ I (bindET (R := fun v H1 => ∃ x s1 HP1, Rel X.K va s1 σ HP1 H1 ∧ Dv X.K HP1 v x ∧ PoT X W va s1 σ HP1 H1 (k x s1) Q) rl h fun x s1 v H1 HP1 st1 d1 h1 => ⟨x, s1, HP1, st1.rel, d1, h1⟩)) fun u s2 ⟨v, H2, I2, r2, x, s1, HP1, rl1, d1, h1⟩ => ?_) hm
  exact hr pos pins s2 va s1 σ HP1 H2 x v u Q I2 rl1 d1 r2 h1
end
end DL

namespace DL
open PySem PySem.Spec PyProof.Rows L2
/-! ## names -/
section
variable {K : PySem.W.Frag} {va : VA} {s : S} {σ : St} {HP H : Hp}
theorem sl_put_ne {s : S} {i j : Nat} {x : Sl} (h : j ≠ i) : (s.put i x).sl[j]? = s.sl[j]? := by
  show (s.sl.set i (some x))[j]? = _
  rw [List.getElem?_set_ne (Ne.symm h)]
theorem sl_put_eq {s : S} {i : Nat} {x : Sl} {y : Option Sl} (h : (s.put i x).sl[i]? = some y) : y = some x := by
  have h' : (s.sl.set i (some x))[i]? = some y := h
  rw [List.getElem?_set_self'] at h'
  cases e : s.sl[i]? with
  | none => rw [e] at h'; cases h'
  | some z => rw [e] at h'; simpa using h'.symm
/-- an own list becomes one that stays as it is -/
theorem Rel.freeze (r : Rel K va s σ HP H) {i : Nat} {xs : List D} (e : s.sl[i]? = some (some (.own xs))) :
    ∃ a HP', σ[i]? = some (some (.ref a)) ∧ Dv K HP' (.ref a) (.lst xs) ∧ Stp K va s σ HP H (s.put i (.val (.lst xs))) σ HP' H := by
  obtain ⟨a, vs, h1, h2, h3, hz, h4⟩ := r.own i xs e
  have sm : Same HP (upd HP a (.lst vs)) := fun b x e => by rw [upd_ne (ne_of_none e h2)]; exact e
  have dl : Dv K (upd HP a (.lst vs)) (.ref a) (.lst xs) := .lst upd_same hz (DvA.mono sm xs vs h4)
  have own : ∀ (j : Nat) ys, (s.put i (.val (.lst xs))).sl[j]? = some (some (.own ys)) → j ≠ i ∧ s.sl[j]? = some (some (.own ys)) := fun j ys q => by
    by_cases h : j = i
    · subst h; cases sl_put_eq q
    · rw [sl_put_ne h] at q; exact ⟨h, q⟩
  have now : ∀ b, Owns va (s.put i (.val (.lst xs))) σ b → Owns va s σ b := fun b q => by
    rcases q with ⟨j, ys, q1, q2⟩ | q
    · exact .inl ⟨j, ys, (own j ys q1).2, q2⟩
    · exact .inr q
  have ko : Obk K va s σ HP H (s.put i (.val (.lst xs))) σ (upd HP a (.lst vs)) H := r.ob.step sm (fun b dx fs e n => ⟨e, by
    have ne : b ≠ a := fun z => by rw [z, h3] at e; cases e
    rw [upd_ne ne]; exact n⟩) fun j n p q => by
    by_cases h : j = i
    · subst h; cases sl_put_eq q
    · rw [sl_put_ne h] at q; exact ⟨q, rfl⟩
  refine ⟨a, upd HP a (.lst vs), h1, dl, ⟨by simpa [S.put] using r.len, fun b x q => ?_, fun j d q => ?_, fun j ys q => ?_, fun j q => ?_, fun ys q => ?_, fun j k ys zs b n q1 q2 => ?_, fun j ys q => ?_, ⟨r.tab.t, noTb_upd r.tab.n (fun _ z => nomatch z)⟩, ko.ob⟩, sm, fun b o hb _ nb => ⟨hb, fun z => nb (now b z), fun z => ?_⟩, Iff.rfl, ko.kob⟩
  · by_cases hb : b = a
    · subst hb; rw [upd_same] at q; cases q; exact h3
    · rw [upd_ne hb] at q; exact r.sub b x q
  · by_cases h : j = i
    · subst h
      cases sl_put_eq q
      exact ⟨_, h1, dl⟩
    · rw [sl_put_ne h] at q
      obtain ⟨v, z1, z2⟩ := r.val j d q
      exact ⟨v, z1, Dv.mono sm d v z2⟩
  · obtain ⟨nj, q'⟩ := own j ys q
    obtain ⟨b, ws, z1, z2, z3, zz, z4⟩ := r.own j ys q'
    have ne : b ≠ a := fun z => by subst z; exact r.dis i j xs ys b (Ne.symm nj) e q' h1 z1
    exact ⟨b, ws, z1, by rw [upd_ne ne]; exact z2, z3, zz, DvA.mono sm ys ws z4⟩
  · by_cases h : j = i
    · subst h; cases sl_put_eq q
    · rw [sl_put_ne h] at q; exact r.vis j q
  · obtain ⟨z1, ws, z2, zz, z3⟩ := r.vst ys q
    have q' : s.via = some ys := q
    have ne : va.a ≠ a := fun z => r.dvi i xs e (by rw [q']; simp) (by rw [z]; exact h1)
    exact ⟨by rw [upd_ne ne]; exact z1, ws, z2, zz, DvA.mono sm ys ws z3⟩
  · exact r.dis j k ys zs b n (own j ys q1).2 (own k zs q2).2
  · exact r.dvi j ys (own j ys q).2
  · have ne : b ≠ a := fun w => nb (.inl ⟨i, xs, e, by rw [w]; exact h1⟩)
    rw [upd_ne ne]; exact z
end
def getS (i : Nat) (s : S) : R D := match s.sl[i]? with
  | some (some (.val d)) => .ok d s
  | some (some (.own xs)) => .ok (.lst xs) (s.put i (.val (.lst xs)))
  | _ => .stuck
section
variable {X : Cx} {W : WX} {a b c e : Expr} {es : List Expr} {fa fb fc : S → R D} {pos : Pos}
theorem de_v (i : Nat) {x : Str} {pos : Pos} (hN : X.N[i]? = some x := by rfl) (hv : Vis X.env.scope x := by first | exact Or.inl rfl | exact Or.inr (Or.inl rfl) | exact Or.inr (Or.inr rfl)) (hd : (x == ("__debug__" : Str)) = false := by decide)
    (hcd : (x == ("__classdict__" : Str)) = false := by decide) : DE X W (.Name x pos) (getS i) := by
  refine pe_imp (pv i hN hv hd hcd) fun σ H Q h => ?_
  obtain ⟨va, s, HP, rl, h⟩ := h
  unfold getS at h
  split at h
  · rename_i d q
    obtain ⟨v, h1, h2⟩ := rl.val i d q
    exact ⟨v, h1, h.fin rl h2⟩
  · rename_i xs q
    obtain ⟨b, HP', h1, h2, h3⟩ := rl.freeze q
    exact ⟨_, h1, h.fin_at h3 h2⟩
  · exact h.elim
end
/-! ## == -/
mutual
def D.py : D → PyData
  | .non => .none
  | .bl b => .bool b
  | .int i => .int i
  | .str x => .str x
  | .lst xs => .list (D.pyA xs)
  | .tup xs => .tuple (D.pyA xs)
  | .ref _ => .dict []
  | .scr _ => .dict []
  | .lam _ _ _ => .dict []
def D.pyA : List D → List PyData
  | [] => []
  | d :: ds => D.py d :: D.pyA ds
end
mutual
def deq : D → D → Bool
  | .non, .non => true
  | .bl a, .bl b => a == b
  | .bl a, .int j => (if a then 1 else 0) == j
  | .int i, .bl b => i == (if b then 1 else 0)
  | .int i, .int j => i == j
  | .str x, .str y => x == y
  | .lst xs, .lst ys => deqA xs ys
  | .tup xs, .tup ys => deqA xs ys
  | _, _ => false
def deqA : List D → List D → Bool
  | [], [] => true
  | x :: xs, y :: ys => deq x y && deqA xs ys
  | _, _ => false
end
def okd : Nat → D → Bool
  | _, .non => true
  | _, .bl _ => true
  | _, .int _ => true
  | _, .str x => PyData.strOk x
  | n + 1, .lst xs => xs.all (okd n)
  | n + 1, .tup xs => xs.all (okd n)
  | _, _ => false
mutual
theorem py_eqv : ∀ (a b : D) (n : Nat), okd n a = true → PyData.eqv a.py b.py = deq a b
  | .non, b, n, _ => by cases b <;> simp [D.py, PyData.eqv, deq]
  | .bl x, b, n, _ => by cases b <;> simp [D.py, PyData.eqv, deq]
  | .int x, b, n, _ => by cases b <;> simp [D.py, PyData.eqv, deq]
  | .str x, b, n, _ => by cases b <;> simp [D.py, PyData.eqv, deq]
  | .lst xs, b, n, h => by
    cases n with
    | zero => simp [okd] at h
    | succ n =>
      have h' : xs.all (okd n) = true := by simpa [okd] using h
      cases b <;> simp [D.py, PyData.eqv, deq, py_eqvA xs _ n h']
  | .tup xs, b, n, h => by
    cases n with
    | zero => simp [okd] at h
    | succ n =>
      have h' : xs.all (okd n) = true := by simpa [okd] using h
      cases b <;> simp [D.py, PyData.eqv, deq, py_eqvA xs _ n h']
  | .ref a, b, n, h => by cases n <;> simp [okd] at h
  | .scr a, b, n, h => by cases n <;> simp [okd] at h
  | .lam _ _ _, b, n, h => by cases n <;> simp [okd] at h
theorem py_eqvA : ∀ (xs ys : List D) (n : Nat), xs.all (okd n) = true → PyData.eqvAll (D.pyA xs) (D.pyA ys) = deqA xs ys
  | [], ys, n, _ => by cases ys <;> simp [D.pyA, PyData.eqvAll, deqA]
  | x :: xs, ys, n, h => by
    have h' : okd n x = true ∧ xs.all (okd n) = true := by simpa using h
    cases ys with
    | nil => simp [D.pyA, PyData.eqvAll, deqA]
    | cons y ys => simp [D.pyA, PyData.eqvAll, deqA, py_eqv x y n h'.1, py_eqvA xs ys n h'.2]
end
mutual
theorem py_lay : ∀ (a : D) (n : Nat), okd n a = true → a.py.canLay0 = true ∧ a.py.depth ≤ n
  | .non, n, _ => by simp [D.py, PyData.canLay0, PyData.depth]
  | .bl x, n, _ => by simp [D.py, PyData.canLay0, PyData.depth]
  | .int x, n, _ => by simp [D.py, PyData.canLay0, PyData.depth]
  | .str x, n, h => by
    have h' : PyData.strOk x = true := by cases n <;> simpa [okd] using h
    simp [D.py, PyData.canLay0, PyData.depth, h']
  | .lst xs, n, h => by
    cases n with
    | zero => simp [okd] at h
    | succ n =>
      have h' : xs.all (okd n) = true := by simpa [okd] using h
      obtain ⟨h1, h2⟩ := py_layA xs n h'
      simp only [D.py, PyData.canLay0, PyData.depth]
      exact ⟨h1, by omega⟩
  | .tup xs, n, h => by
    cases n with
    | zero => simp [okd] at h
    | succ n =>
      have h' : xs.all (okd n) = true := by simpa [okd] using h
      obtain ⟨h1, h2⟩ := py_layA xs n h'
      simp only [D.py, PyData.canLay0, PyData.depth]
      exact ⟨h1, by omega⟩
  | .ref a, n, h => by cases n <;> simp [okd] at h
  | .scr a, n, h => by cases n <;> simp [okd] at h
  | .lam _ _ _, n, h => by cases n <;> simp [okd] at h
theorem py_layA : ∀ (xs : List D) (n : Nat), xs.all (okd n) = true → PyData.canLayAll0 (D.pyA xs) = true ∧ PyData.depthAll (D.pyA xs) ≤ n
  | [], n, _ => by simp [D.pyA, PyData.canLayAll0, PyData.depthAll]
  | x :: xs, n, h => by
    have h' : okd n x = true ∧ xs.all (okd n) = true := by simpa using h
    obtain ⟨h1, h2⟩ := py_lay x n h'.1
    obtain ⟨h3, h4⟩ := py_layA xs n h'.2
    simp only [D.pyA, PyData.canLayAll0, PyData.depthAll, h1, h3, Bool.and_self, true_and]
    omega
end
mutual
theorem py_dp {K : PySem.W.Frag} {H HP : Hp} (sm : Same HP H) : ∀ (d : D) (v : V) (n : Nat), okd n d = true → Dv K HP v d → Dp K H v d.py
  | .non, _, _, _, h => by cases h; exact .non
  | .bl b, _, _, _, h => by cases h; exact .bl b
  | .int i, _, _, _, h => by cases h; exact .int i
  | .str x, _, _, _, h => by cases h; exact .str x
  | .ref a, _, n, o, h => by cases n <;> simp [okd] at o
  | .scr a, _, n, o, h => by cases n <;> simp [okd] at o
  | .lam _ _ _, _, n, o, h => by cases n <;> simp [okd] at o
  | .lst xs, _, n, o, h => by
    cases n with
    | zero => simp [okd] at o
    | succ n =>
      have o' : xs.all (okd n) = true := by simpa [okd] using o
      cases h with
      | lst hs _ ha => exact .lst (SqL.of (sm _ _ hs)) (py_dpA sm xs _ n o' ha)
  | .tup xs, _, n, o, h => by
    cases n with
    | zero => simp [okd] at o
    | succ n =>
      have o' : xs.all (okd n) = true := by simpa [okd] using o
      cases h with
      | tup hs _ ha => exact .tup (SqT.of (sm _ _ hs)) (py_dpA sm xs _ n o' ha)
theorem py_dpA {K : PySem.W.Frag} {H HP : Hp} (sm : Same HP H) : ∀ (ds : List D) (vs : List V) (n : Nat), ds.all (okd n) = true → DvA K HP vs ds → DpAll K H vs (D.pyA ds)
  | [], _, _, _, h => by cases h; exact .nil
  | d :: ds, _, n, o, h => by
    have o' : okd n d = true ∧ ds.all (okd n) = true := by simpa using o
    cases h with
    | cons h1 h2 => exact .cons (py_dp sm d _ n o'.1 h1) (py_dpA sm ds _ n o'.2 h2)
end
theorem py_shaped {d : D} (h : okd 60 d = true) : SeqAt.shaped d.py = true := by
  obtain ⟨h1, h2⟩ := py_lay d 60 h
  unfold SeqAt.shaped
  rw [h1, decide_eq_true (show d.py.depth ≤ 64 by omega)]
  rfl
theorem pyA_any (f : D → Bool) (g : PyData → Bool) : ∀ ds : List D, (∀ d ∈ ds, g d.py = f d) → (D.pyA ds).any g = ds.any f
  | [], _ => rfl
  | d :: ds, h => by
    rw [D.pyA, List.any_cons, List.any_cons, h d (by simp), pyA_any f g ds fun e he => h e (by simp [he])]
def opEq (a b : D) : Option D := if okd 60 a && okd 60 b then some (.bl (deq a b)) else none
def opNe (a b : D) : Option D := if okd 60 a && okd 60 b then some (.bl (!deq a b)) else none
/-- whether a is among xs -/
def dmem (a : D) (xs : List D) : Bool := xs.any fun z => deq z a
def opIn (a b : D) : Option D := match b with
  | .lst xs => if okd 59 a && xs.all (okd 59) then some (.bl (dmem a xs)) else none
  | _ => none
def opNotIn (a b : D) : Option D := match b with
  | .lst xs => if okd 59 a && xs.all (okd 59) then some (.bl (!dmem a xs)) else none
  | _ => none
theorem okd_up : ∀ (n : Nat) (d : D), okd n d = true → okd (n + 1) d = true
  | 0, d, h => by cases d <;> simp_all [okd]
  | n + 1, d, h => by
    cases d with
    | lst xs =>
      have h' : ∀ x ∈ xs, okd n x = true := by simpa [okd] using h
      have : ∀ x ∈ xs, okd (n + 1) x = true := fun x hx => okd_up n x (h' x hx)
      simpa [okd] using this
    | tup xs =>
      have h' : ∀ x ∈ xs, okd n x = true := by simpa [okd] using h
      have : ∀ x ∈ xs, okd (n + 1) x = true := fun x hx => okd_up n x (h' x hx)
      simpa [okd] using this
    | _ => simp_all [okd]
section
variable {X : Cx} {W : WX} {a b c e : Expr} {es : List Expr} {fa fb fc : S → R D} {pos : Pos}
theorem od_eq {k : Nat} (hr : Room k X.A) : OpD X (compareOp .Eq) opEq := by
  refine ⟨_, op_eqD hr.units, fun W va s σ HP H x y a b d Q rl dx dy e p => ?_⟩
  unfold opEq at e
  split at e <;> cases e
  rename_i hz
  obtain ⟨h1, h2⟩ := Bool.and_eq_true_iff.mp hz
  exact ⟨a.py, b.py, py_dp rl.sub a x 60 h1 dx, py_dp rl.sub b y 60 h2 dy, py_shaped h1, py_shaped h2, by rw [py_eqv a b 60 h1]; exact fin_bl p rl⟩
theorem od_ne {k : Nat} (hr : Room k X.A) : OpD X (compareOp .NotEq) opNe := by
  refine ⟨_, op_neD hr.units, fun W va s σ HP H x y a b d Q rl dx dy e p => ?_⟩
  unfold opNe at e
  split at e <;> cases e
  rename_i hz
  obtain ⟨h1, h2⟩ := Bool.and_eq_true_iff.mp hz
  exact ⟨a.py, b.py, py_dp rl.sub a x 60 h1 dx, py_dp rl.sub b y 60 h2 dy, py_shaped h1, py_shaped h2, by rw [py_eqv a b 60 h1]; exact fin_bl p rl⟩
theorem dmem_py {a : D} {xs : List D} (h : xs.all (okd 59) = true) : ((D.pyA xs).any fun z => PyData.eqv z a.py) = dmem a xs := by
  refine pyA_any _ _ xs fun d hd => ?_
  exact py_eqv d a 59 (List.all_eq_true.mp h d hd)
theorem od_in {k : Nat} (hr : Room k X.A) : OpD X (compareOp .In) opIn := by
  refine ⟨_, op_inD (by have := hr.un; omega), fun W va s σ HP H x y a b d Q rl dx dy e p => ?_⟩
  unfold opIn at e
  split at e
  · split at e <;> cases e
    rename_i xs hz
    obtain ⟨h1, h2⟩ := Bool.and_eq_true_iff.mp hz
    have h3 : okd 60 (.lst xs) = true := by simpa [okd] using h2
    have h4 := okd_up 59 a h1
    refine ⟨a.py, D.pyA xs, py_dp rl.sub a x 60 h4 dx, py_dp rl.sub (.lst xs) y 60 h3 dy, py_shaped h4, py_shaped h3, ?_⟩
    rw [dmem_py h2]
    exact fin_bl p rl
  · cases e
theorem od_notin {k : Nat} (hr : Room k X.A) : OpD X (compareOp .NotIn) opNotIn := by
  refine ⟨_, op_notInD (by have := hr.un; omega), fun W va s σ HP H x y a b d Q rl dx dy e p => ?_⟩
  unfold opNotIn at e
  split at e
  · split at e <;> cases e
    rename_i xs hz
    obtain ⟨h1, h2⟩ := Bool.and_eq_true_iff.mp hz
    have h3 : okd 60 (.lst xs) = true := by simpa [okd] using h2
    have h4 := okd_up 59 a h1
    refine ⟨a.py, D.pyA xs, py_dp rl.sub a x 60 h4 dx, py_dp rl.sub (.lst xs) y 60 h3 dy, py_shaped h4, py_shaped h3, ?_⟩
    rw [dmem_py h2]
    exact fin_bl p rl
  · cases e
/-! ## items, slices -/
def opIx : D → D → Option D
  | .lst xs, .int i => atI xs i
  | .tup xs, .int i => atI xs i
  | .scr ns, .int i => (atI ns i).map .int
  | _, _ => none
theorem DvA.atI {K : PySem.W.Frag} {H : Hp} {vs : List V} {ds : List D} {i : Int} {d : D} (h : DvA K H vs ds) (e : L2.atI ds i = some d) : ∃ v, L2.atI vs i = some v ∧ Dv K H v d := by
  unfold L2.atI at e ⊢
  rw [h.length]
  cases q : ixN ds.length i with
  | none => rw [q] at e; cases e
  | some j => rw [q] at e; exact h.getD e
theorem de_ix (ha : DE X W a fa) (hb : DE X W b fb) (hs : PlainIx b := by exact fun _ _ => rfl) : DE X W (.Subscript a b pos) (fun s => (fa s).bind fun x s => (fb s).bind fun y s => lift (opIx x y) s) := by
  refine pe_imp (pe_ix ix_seq ha hb hs) fun σ H Q h => de_bin (fun W va s σ HP H x y a b d Q rl dx dy e p => ?_) σ H Q h
  unfold opIx at e
  split at e
  · cases dx with
    | @lst q vs ds h1 y1 a1 =>
      cases dy
      obtain ⟨v, h2, h3⟩ := a1.atI e
      exact .inl ⟨q, vs, _, v, rfl, rfl, SqL.of (rl.sub _ _ h1), h2, p.fin rl h3⟩
  · cases dx with
    | @tup q vs ds h1 y1 a1 =>
      cases dy
      obtain ⟨v, h2, h3⟩ := a1.atI e
      exact .inr (.inl ⟨q, vs, _, v, rfl, rfl, SqT.of (rl.sub _ _ h1), h2, p.fin rl h3⟩)
  · rename_i ns i
    cases dx with
    | @scr q _ h1 =>
      cases dy
      cases z : L2.atI ns i with
      | none => rw [z] at e; cases e
      | some n =>
        rw [z] at e
        cases e
        refine .inl ⟨q, ns.map V.int, i, .int n, rfl, rfl, rl.sub.seq h1, ?_, fin_int p rl⟩
        unfold L2.atI at z ⊢
        rw [List.length_map]
        cases y : ixN ns.length i with
        | none => rw [y] at z; cases z
        | some j =>
          rw [y] at z
          show (ns.map V.int)[j]? = _
          rw [List.getElem?_map, show ns[j]? = some n from z]
          rfl
  · cases e
/-- a slice's part -/
def PoO (X : Cx) (W : WX) (va : VA) (s : S) (σ : St) (HP H : Hp) (r : R (Option Int)) (Q : Option Int → Hp → Prop) : Prop := match r with
  | .ok b s' => ∀ H' HP', Stp X.K va s σ HP H s' σ HP' H' → Q b H'
  | .exc n p s' => ∀ dd H' HP' C, Stp X.K va s σ HP H s' σ HP' H' → ExcAt p dd H' → ECl X.mg n C → W C dd σ H'
  | .stuck => False
def tDO (X : Cx) (W : WX) (f : S → R (Option Int)) : TO := fun σ H Q => ∃ va s HP, Rel X.K va s σ HP H ∧ PoO X W va s σ HP H (f s) Q
def DO (X : Cx) (W : WX) (e : Option Expr) (f : S → R (Option Int)) : Prop := PO X e (tDO X W f)
theorem do_none : DO X W none (fun s => .ok none s) := ⟨fun pins s σ H Q I h => by
  obtain ⟨va, st, HP, rl, h⟩ := h
  exact po_none.run pins s σ H Q I (h H HP (Stp.refl rl))⟩
def toI (d : D) (s : S) : R (Option Int) := match d with
  | .int i => .ok (some i) s
  | _ => .stuck
@[simp] theorem toI_int (i : Int) (s : S) : toI (.int i) s = .ok (some i) s := rfl
theorem do_some (ha : DE X W a fa) : DO X W (some a) (fun s => (fa s).bind toI) := ⟨fun pins s σ H Q I h => by
  obtain ⟨va, st, HP, rl, h⟩ := h
  dsimp only at h
  refine (po_some ha).run pins s σ H Q I (bindE rl (fun d s' v H' HP' e stp dv => ?_) (fun n p s' dd H' HP' C e stp z m => ?_) (fun e => ?_)) <;> rw [e] at h
  · cases dv <;> first | exact h.elim | exact ⟨_, rfl, h H' HP' stp⟩
  · exact h dd H' HP' C stp z m
  · exact h⟩
def cutG {α : Type} (xs : List α) (lo hi : Option Int) : List α := (xs.drop (HT.sIx xs.length 0 lo)).take (HT.sIx xs.length xs.length hi - HT.sIx xs.length 0 lo)
def opSl (d : D) (lo hi : Option Int) : Option D := match d with
  | .tup xs => some (.tup (cutG xs lo hi))
  | .lst xs => some (.lst (cutG xs lo hi))
  | _ => none
theorem cut_len {α : Type} (xs : List α) (lo hi : Option Int) : (cutG xs lo hi).length ≤ xs.length := by
  unfold cutG
  rw [List.length_take, List.length_drop]
  omega
theorem DvA.cut {K : PySem.W.Frag} {H : Hp} {vs : List V} {ds : List D} (h : DvA K H vs ds) (lo hi : Option Int) : DvA K H (cutV vs lo hi) (cutG ds lo hi) := by
  unfold cutV cutG
  rw [h.length]
  exact (h.drop _).take _
theorem cut_whole {α : Type} {xs : List α} {lo hi : Option Int} (h : HT.sIx xs.length 0 lo = 0 ∧ HT.sIx xs.length xs.length hi = xs.length) : cutG xs lo hi = xs := by
  unfold cutG
  rw [h.1, h.2, List.drop_zero, Nat.sub_zero, List.take_length]
theorem de_sl {lo hi : Option Expr} {fl fh : S → R (Option Int)} {p2 : Pos} (ha : DE X W a fa) (hl : DO X W lo fl) (hh : DO X W hi fh) :
    DE X W (.Subscript a (.Slice lo hi none p2) pos) (fun s => (fa s).bind fun x s => (fl s).bind fun l s => (fh s).bind fun u s => lift (opSl x l u) s) := by
  refine pe_imp (pe_slice (sl_tupA.or sl_list) ha hl hh) fun σ H Q h => ?_
  obtain ⟨va, s, HP, rl, h⟩ := h
  dsimp only at h
  refine bindEE rl h fun x s1 v H1 HP1 st1 d1 h1 => ?_
  refine ⟨va, s1, HP1, st1.rel, ?_⟩
  cases e1 : fl s1 with
  | stuck => rw [e1] at h1; exact h1
  | exc n p s' => rw [e1] at h1; exact h1
  | ok l s2 =>
    rw [e1] at h1
    intro H2 HP2 st2
    have h2 := PoE.from st2 h1
    refine ⟨va, s2, HP2, st2.rel, ?_⟩
    cases e2 : fh s2 with
    | stuck => simp only [R.bind_ok, e2, R.bind_stuck] at h2; exact h2
    | exc n p s' => simp only [R.bind_ok, e2, R.bind_exc] at h2; exact h2
    | ok u s3 =>
      simp only [R.bind_ok, e2] at h2
      intro H3 HP3 st3
      have h3 := PoE.from st3 h2
      have dx := Dv.mono (st2.same.trans st3.same) x v d1
      have rl3 := st3.rel
      unfold opSl at h3
      split at h3
      · rename_i ds
        cases dx with
        | @tup q vs _ z1 y1 a1 =>
          refine .inl ⟨q, vs, rfl, SqT.of (rl3.sub _ _ z1), fun w => ?_, fun _ p hp => fin_tup h3 rl3 (a1.cut l u) (Nat.le_trans (cut_len _ _ _) y1) p hp⟩
          have w' : cutG ds l u = ds := cut_whole (by rw [← a1.length]; exact w)
          rw [w'] at h3
          exact h3.fin rl3 (.tup z1 y1 a1)
      · cases dx with
        | @lst q vs ds z1 y1 a1 => exact .inr ⟨q, vs, rfl, SqL.of (rl3.sub _ _ z1), fun p hp => fin_lst h3 rl3 (a1.cut l u) (Nat.le_trans (cut_len _ _ _) y1) p hp⟩
      · exact h3.elim
end
end DL

namespace DL
open PySem PySem.Spec PyProof.Rows L2
/-! ## what a store does to the state -/
section
variable {K : PySem.W.Frag} {va : VA} {s : S} {σ : St} {HP H : Hp}
theorem st_put_ne {σ : St} {i j : Nat} {x : Option V} (h : j ≠ i) : (σ.set i x)[j]? = σ[j]? := List.getElem?_set_ne (Ne.symm h)
theorem put_own {i : Nat} {d : D} {j : Nat} {ys : List D} (q : (s.put i (.val d)).sl[j]? = some (some (.own ys))) : j ≠ i ∧ s.sl[j]? = some (some (.own ys)) := by
  by_cases h : j = i
  · subst h; cases sl_put_eq q
  · rw [sl_put_ne h] at q; exact ⟨h, q⟩
theorem put_obj {i : Nat} {x : Sl} (hx : ∀ n p, x ≠ .obj n p) {j : Nat} {n p : D} (q : (s.put i x).sl[j]? = some (some (.obj n p))) : j ≠ i ∧ s.sl[j]? = some (some (.obj n p)) := by
  by_cases h : j = i
  · subst h
    have := sl_put_eq q
    injection this with e
    exact absurd e.symm (hx n p)
  · rw [sl_put_ne h] at q; exact ⟨h, q⟩
theorem Rel.put (r : Rel K va s σ HP H) (i : Nat) {v : V} {d : D} (dv : Dv K HP v d) : Stp K va s σ HP H (s.put i (.val d)) (σ.set i (some v)) HP H := by
  have ko : Obk K va s σ HP H (s.put i (.val d)) (σ.set i (some v)) HP H := r.ob.step (Same.refl _) (fun b dx fs e n => ⟨e, n⟩) fun j n p q => by
    obtain ⟨h, q'⟩ := put_obj (by intro _ _ z; cases z) q
    exact ⟨q', st_put_ne h⟩
  refine ⟨⟨by simpa [S.put] using r.len, r.sub, fun j e q => ?_, fun j ys q => ?_, fun j q => ?_, r.vst, fun j k ys zs b n q1 q2 q3 => ?_, fun j ys q n => ?_, r.tab, ko.ob⟩, Same.refl _, fun b o hb _ nb => ⟨hb, fun z => nb ?_, fun z => z⟩, Iff.rfl, ko.kob⟩
  · by_cases h : j = i
    · subst h
      cases sl_put_eq q
      refine ⟨v, ?_, dv⟩
      have hlt : j < σ.length := by
        have : j < (s.put j (.val d)).sl.length := by
          rcases Nat.lt_or_ge j (s.put j (.val d)).sl.length with z | z
          · exact z
          · rw [List.getElem?_eq_none_iff.mpr z] at q; cases q
        simpa [S.put, r.len] using this
      rw [List.getElem?_set_self hlt]
    · rw [sl_put_ne h] at q
      obtain ⟨w, z1, z2⟩ := r.val j e q
      exact ⟨w, by rw [st_put_ne h]; exact z1, z2⟩
  · obtain ⟨nj, q'⟩ := put_own q
    obtain ⟨a, vs, z1, z2⟩ := r.own j ys q'
    exact ⟨a, vs, by rw [st_put_ne nj]; exact z1, z2⟩
  · by_cases h : j = i
    · subst h; cases sl_put_eq q
    · rw [sl_put_ne h] at q; rw [st_put_ne h]; exact r.vis j q
  · obtain ⟨n1, q1'⟩ := put_own q1
    obtain ⟨n2, q2'⟩ := put_own q2
    rw [st_put_ne n1] at q3
    rw [st_put_ne n2]
    exact r.dis j k ys zs b n q1' q2' q3
  · obtain ⟨n1, q'⟩ := put_own q
    rw [st_put_ne n1]
    exact r.dvi j ys q' n
  · rcases z with ⟨j, ys, q1, q2⟩ | z
    · obtain ⟨n1, q'⟩ := put_own q1
      rw [st_put_ne n1] at q2
      exact .inl ⟨j, ys, q', q2⟩
    · exact .inr z
/-- a new list that the slot alone holds -/
theorem Rel.putOwn (r : Rel K va s σ HP H) (i : Nat) {p : Addr} {vs : List V} {ds : List D} (np : H p = none) (hz : ds.length ≤ sizeLine) (dv : DvA K HP vs ds) :
    Stp K va s σ HP H (s.put i (.own ds)) (σ.set i (some (.ref p))) HP (upd H p (.lst vs)) := by
  have nP : HP p = none := r.sub.free np
  have no : ∀ b x, H b = some x → upd H p (.lst vs) b = some x := fun b x e => by rw [upd_ne (ne_of_none e np)]; exact e
  have own : ∀ (j : Nat) ys, (s.put i (.own ds)).sl[j]? = some (some (.own ys)) → (j = i ∧ ys = ds) ∨ (j ≠ i ∧ s.sl[j]? = some (some (.own ys))) := fun j ys q => by
    by_cases h : j = i
    · subst h
      have := sl_put_eq q
      injection this with e
      injection e with e
      exact .inl ⟨rfl, e⟩
    · rw [sl_put_ne h] at q; exact .inr ⟨h, q⟩
  have lt : ∀ {y : Sl}, (s.put i y).sl[i]? ≠ none → i < σ.length := fun {y} q => by
    have : i < (s.put i y).sl.length := by
      rcases Nat.lt_or_ge i (s.put i y).sl.length with z | z
      · exact z
      · exact absurd (List.getElem?_eq_none_iff.mpr z) q
    simpa [S.put, r.len] using this
  have at_i : ∀ {y : Sl}, (s.put i y).sl[i]? ≠ none → (σ.set i (some (V.ref p)))[i]? = some (some (.ref p)) := fun q => List.getElem?_set_self (lt q)
  have op : ∀ (j : Nat) ys a, s.sl[j]? = some (some (.own ys)) → σ[j]? = some (some (.ref a)) → a ≠ p := fun j ys a q1 q2 z => by
    obtain ⟨b, ws, z1, z2, z3, _⟩ := r.own j ys q1
    rw [q2] at z1
    injection z1 with z1; injection z1 with z1; injection z1 with z1
    rw [← z1, z, np] at z3; cases z3
  have ko : Obk K va s σ HP H (s.put i (.own ds)) (σ.set i (some (.ref p))) HP (upd H p (.lst vs)) := r.ob.step (Same.refl _) (fun b dx fs e n => ⟨no b _ e, n⟩) fun j n p q => by
    obtain ⟨h, q'⟩ := put_obj (by intro _ _ z; cases z) q
    exact ⟨q', st_put_ne h⟩
  refine ⟨⟨by simpa [S.put] using r.len, fun b x e => no b x (r.sub b x e), fun j e q => ?_, fun j ys q => ?_, fun j q => ?_, fun xs q => ?_, fun j k ys zs b n q1 q2 q3 => ?_, fun j ys q n => ?_, ⟨r.tab.t.ext no, r.tab.n⟩, ko.ob⟩, Same.refl _, fun b o hb _ nb => ⟨no b o hb, fun z => nb ?_, fun z => z⟩, Iff.rfl, ko.kob⟩
  · by_cases h : j = i
    · subst h; cases sl_put_eq q
    · rw [sl_put_ne h] at q
      obtain ⟨w, z1, z2⟩ := r.val j e q
      exact ⟨w, by rw [st_put_ne h]; exact z1, z2⟩
  · rcases own j ys q with ⟨rfl, rfl⟩ | ⟨nj, q'⟩
    · exact ⟨p, vs, at_i (by rw [q]; simp), nP, upd_same, hz, dv⟩
    · obtain ⟨a, ws, z1, z2, z3, z4⟩ := r.own j ys q'
      exact ⟨a, ws, by rw [st_put_ne nj]; exact z1, z2, no _ _ z3, z4⟩
  · by_cases h : j = i
    · subst h; cases sl_put_eq q
    · rw [sl_put_ne h] at q; rw [st_put_ne h]; exact r.vis j q
  · obtain ⟨z1, ws, z2, z3⟩ := r.vst xs q
    exact ⟨z1, ws, no _ _ z2, z3⟩
  · rcases own j ys q1 with ⟨rfl, rfl⟩ | ⟨nj, q1'⟩
    · rcases own k zs q2 with ⟨rfl, rfl⟩ | ⟨nk, q2'⟩
      · exact absurd rfl n
      · rw [at_i (by rw [q1]; simp)] at q3
        rw [st_put_ne nk]
        intro q4
        injection q3 with q3; injection q3 with q3; injection q3 with q3
        exact op k zs b q2' q4 q3.symm
    · rw [st_put_ne nj] at q3
      rcases own k zs q2 with ⟨rfl, rfl⟩ | ⟨nk, q2'⟩
      · rw [at_i (by rw [q2]; simp)]
        intro q4
        injection q4 with q4; injection q4 with q4; injection q4 with q4
        exact op j ys b q1' q3 q4.symm
      · rw [st_put_ne nk]
        exact r.dis j k ys zs b n q1' q2' q3
  · rcases own j ys q with ⟨rfl, rfl⟩ | ⟨nj, q'⟩
    · rw [at_i (by rw [q]; simp)]
      intro q4
      injection q4 with q4; injection q4 with q4; injection q4 with q4
      cases hv : s.via with
      | none => exact n hv
      | some w =>
        obtain ⟨_, ws, z2, _⟩ := r.vst w hv
        rw [← q4, np] at z2; cases z2
    · rw [st_put_ne nj]; exact r.dvi j ys q' n
  · rcases z with ⟨j, ys, q1, q2⟩ | z
    · rcases own j ys q1 with ⟨rfl, rfl⟩ | ⟨nj, q1'⟩
      · rw [at_i (by rw [q1]; simp)] at q2
        injection q2 with q2; injection q2 with q2; injection q2 with q2
        rw [← q2, np] at hb; cases hb
      · rw [st_put_ne nj] at q2
        exact .inl ⟨j, ys, q1', q2⟩
    · exact .inr z
/-- the list that slot i alone holds is changed -/
theorem Rel.chg (r : Rel K va s σ HP H) {i : Nat} {xs ds : List D} {a : Addr} {vs : List V} (e : s.sl[i]? = some (some (.own xs))) (ha : σ[i]? = some (some (.ref a))) (hz : ds.length ≤ sizeLine) (dv : DvA K HP vs ds) :
    Stp K va s σ HP H (s.put i (.own ds)) σ HP (upd H a (.lst vs)) := by
  obtain ⟨a', vs', h1, h2, h3, h4, h5⟩ := r.own i xs e
  rw [ha] at h1
  injection h1 with h1; injection h1 with h1; injection h1 with h1
  subst h1
  have own : ∀ (j : Nat) ys, (s.put i (.own ds)).sl[j]? = some (some (.own ys)) → (j = i ∧ ys = ds) ∨ (j ≠ i ∧ s.sl[j]? = some (some (.own ys))) := fun j ys q => by
    by_cases h : j = i
    · subst h
      have := sl_put_eq q
      injection this with e
      injection e with e
      exact .inl ⟨rfl, e⟩
    · rw [sl_put_ne h] at q; exact .inr ⟨h, q⟩
  have nP : ∀ b x, HP b = some x → b ≠ a := fun b x e => ne_of_none e h2
  have ow : ∀ (j : Nat) ys, (s.put i (.own ds)).sl[j]? = some (some (.own ys)) → ∃ zs, s.sl[j]? = some (some (.own zs)) := fun j ys q => by
    rcases own j ys q with ⟨rfl, rfl⟩ | ⟨nj, q'⟩
    · exact ⟨xs, e⟩
    · exact ⟨ys, q'⟩
  have ko : Obk K va s σ HP H (s.put i (.own ds)) σ HP (upd H a (.lst vs)) := r.ob.step (Same.refl _) (fun b dx fs e n => ⟨by
    have ne : b ≠ a := fun z => by rw [z, h3] at e; cases e
    rw [upd_ne ne]; exact e, n⟩) fun j n p q => by
    obtain ⟨h, q'⟩ := put_obj (by intro _ _ z; cases z) q
    exact ⟨q', rfl⟩
  refine ⟨⟨by simpa [S.put] using r.len, fun b x q => by rw [upd_ne (nP b x q)]; exact r.sub b x q, fun j f q => ?_, fun j ys q => ?_, fun j q => ?_, fun ws q => ?_, fun j k ys zs b n q1 q2 q3 => ?_, fun j ys q n => ?_, ⟨tab_upd r.tab.t h3, r.tab.n⟩, ko.ob⟩, Same.refl _, fun b o hb _ nb => ⟨?_, fun z => nb ?_, fun z => z⟩, Iff.rfl, ko.kob⟩
  · by_cases h : j = i
    · subst h; cases sl_put_eq q
    · rw [sl_put_ne h] at q; exact r.val j f q
  · rcases own j ys q with ⟨rfl, rfl⟩ | ⟨nj, q'⟩
    · exact ⟨a, vs, ha, h2, upd_same, hz, dv⟩
    · obtain ⟨b, ws, z1, z2, z3, z4⟩ := r.own j ys q'
      have ne : b ≠ a := fun z => by subst z; exact r.dis i j xs ys b (Ne.symm nj) e q' ha z1
      exact ⟨b, ws, z1, z2, by rw [upd_ne ne]; exact z3, z4⟩
  · by_cases h : j = i
    · subst h; cases sl_put_eq q
    · rw [sl_put_ne h] at q; exact r.vis j q
  · obtain ⟨z1, us, z2, z3⟩ := r.vst ws q
    have q' : s.via = some ws := q
    have ne : va.a ≠ a := fun z => r.dvi i xs e (by rw [q']; simp) (by rw [z]; exact ha)
    exact ⟨z1, us, by rw [upd_ne ne]; exact z2, z3⟩
  · obtain ⟨_, q1'⟩ := ow j ys q1
    obtain ⟨_, q2'⟩ := ow k zs q2
    exact r.dis j k _ _ b n q1' q2' q3
  · obtain ⟨_, q'⟩ := ow j ys q
    exact r.dvi j _ q' n
  · have ne : b ≠ a := fun w => nb (.inl ⟨i, xs, e, by rw [w]; exact ha⟩)
    rw [upd_ne ne]; exact hb
  · rcases z with ⟨j, ys, q1, q2⟩ | z
    · obtain ⟨_, q1'⟩ := ow j ys q1
      exact .inl ⟨j, _, q1', q2⟩
    · exact .inr z
/-- the lent list is changed -/
theorem Rel.chgV (r : Rel K va s σ HP H) {xs ds : List D} {vs : List V} (e : s.via = some xs) (hz : ds.length ≤ sizeLine) (dv : DvA K HP vs ds) :
    Stp K va s σ HP H ⟨s.sl, some ds⟩ σ HP (upd H va.a (.lst vs)) := by
  obtain ⟨h2, vs', h3, h4, h5⟩ := r.vst xs e
  have nv : s.via ≠ none := by rw [e]; simp
  have nP : ∀ b x, HP b = some x → b ≠ va.a := fun b x e => ne_of_none e h2
  have ko : Obk K va s σ HP H ⟨s.sl, some ds⟩ σ HP (upd H va.a (.lst vs)) := r.ob.step (Same.refl _) (fun b dx fs e n => ⟨by
    have ne : b ≠ va.a := fun z => by rw [z, h3] at e; cases e
    rw [upd_ne ne]; exact e, n⟩) fun j n p q => ⟨q, rfl⟩
  refine ⟨⟨r.len, fun b x q => by rw [upd_ne (nP b x q)]; exact r.sub b x q, r.val, fun j ys q => ?_, fun j q => ⟨(r.vis j q).1, by simp⟩, fun ws q => ?_, r.dis, fun j ys q n => r.dvi j ys q nv, ⟨tab_upd r.tab.t h3, r.tab.n⟩, ko.ob⟩, Same.refl _, fun b o hb _ nb => ⟨?_, fun z => nb ?_, fun z => z⟩, by simp [e], ko.kob⟩
  · obtain ⟨b, ws, z1, z2, z3, z4⟩ := r.own j ys q
    have ne : b ≠ va.a := fun z => by subst z; exact r.dvi j ys q nv z1
    exact ⟨b, ws, z1, z2, by rw [upd_ne ne]; exact z3, z4⟩
  · have : ds = ws := by simpa using q
    subst this
    exact ⟨h2, vs, upd_same, hz, dv⟩
  · have ne : b ≠ va.a := fun w => nb (.inr ⟨nv, w⟩)
    rw [upd_ne ne]; exact hb
  · rcases z with ⟨j, ys, q1, q2⟩ | ⟨_, z⟩
    · exact .inl ⟨j, ys, q1, q2⟩
    · exact .inr ⟨nv, z⟩
end
/-! ## statements -/
section
variable {X : Cx} {W : WX} {a b c e : Expr} {es : List Expr} {fa fb fc : S → R D} {ga : S → R (List D)} {ta tb tc : S → R Bool} {pos : Pos} {st : Stmt} {sts sts' : List Stmt} {f f' : S → T}
theorem dss_nil : DSs X W [] (fun s => .next s) := pss_imp pss_nil fun D σ H ⟨va, s, HP, rl, h⟩ => h σ H HP (Stp.refl rl)
theorem tDS_seq {va : VA} {s : S} {σ : St} {HP H : Hp} {D : Ends} (rl : Rel X.K va s σ HP H) (h : PoS X W va s σ HP H ((f s).seq f') D) : tDS X W f { D with nx := tDS X W f' D } σ H := by
  refine ⟨va, s, HP, rl, ?_⟩
  cases e : f s with
  | next s' => rw [e] at h; exact fun σ' H' HP' stp => ⟨va, s', HP', stp.rel, PoS.from stp h⟩
  | ret d s' => rw [e] at h; exact h
  | retO d s' => rw [e] at h; exact h
  | brk s' => rw [e] at h; exact h
  | cnt s' => rw [e] at h; exact h
  | exc n p s' => rw [e] at h; exact h
  | stuck => rw [e] at h; exact h
theorem dss_cons (h1 : DS X W st f) (h2 : DSs X W sts f') : DSs X W (st :: sts) (fun s => (f s).seq f') :=
  pss_imp (pss_cons h1 h2) fun D σ H ⟨va, s, HP, rl, h⟩ => tDS_seq rl h
theorem dss_one (h1 : DS X W st f) : DSs X W [st] f := pss_one h1
theorem ds_pass : DS X W (.Pass pos) (fun s => .next s) := ps_imp ps_pass fun D σ H ⟨va, s, HP, rl, h⟩ => h σ H HP (Stp.refl rl)
theorem ds_brk : DS X W (.Break pos) (fun s => .brk s) := ps_imp ps_break fun D σ H ⟨va, s, HP, rl, h⟩ => h σ H HP (Stp.refl rl)
theorem ds_ret (ha : DE X W a fa) : DS X W (.Return (some a) pos) (fun s => (fa s).thn fun d s => .ret d s) :=
  ps_imp (ps_ret ha) fun D σ H ⟨va, s, HP, rl, h⟩ => bindES rl h fun d s1 v H1 HP1 st1 d1 h1 => h1 v σ H1 HP1 (Stp.refl st1.rel) d1
/-- return [a, b, ..]: a list for the caller alone -/
theorem ds_retO (ha : DA X W es ga) {p0 : Pos} : DS X W (.Return (some (.List es p0)) pos) (fun s => (ga s).thn fun ds s => if ds.length ≤ sizeLine then .retO ds s else .stuck) := by
  refine ps_imp (ps_ret (pe_lst ha)) fun D σ H ⟨va, s, HP, rl, h⟩ => ?_
  refine bindA rl (fun ds s1 vs H1 HP1 e st1 d1 => ?_) (fun n p s' dd H' HP' C e stp z m => ?_) (fun e => ?_) <;> simp only [e, R.thn_ok, R.thn_exc, R.thn_stuck] at h
  · split at h
    · rename_i hz
      exact ⟨by rw [d1.length]; exact hz, fun p hp => h p vs σ H1 HP1 st1 hp hz d1⟩
    · exact h.elim
  · exact h dd σ H' HP' C stp z m
  · exact h
theorem ds_retN : DS X W (.Return none pos) (fun s => .ret .non s) := ps_imp ps_retN fun D σ H ⟨va, s, HP, rl, h⟩ => h _ σ H HP (Stp.refl rl) .non
theorem ds_expr (ha : DE X W a fa) (hs : swapsWith a none pos.line X.env = pure false := by rfl) : DS X W (.Expr a pos) (fun s => (fa s).thn fun _ s => .next s) :=
  ps_imp (ps_expr ha hs) fun D σ H ⟨va, s, HP, rl, h⟩ => bindES rl h fun d s1 v H1 HP1 st1 d1 h1 => h1 σ H1 HP1 (Stp.refl st1.rel)
theorem ds_doc {x : Str} {j : Nat} {pos' : Pos} : DS X W (.Expr (.Constant (.str x) j pos) pos') (fun s => .next s) := ps_imp ps_doc fun D σ H ⟨va, s, HP, rl, h⟩ => h σ H HP (Stp.refl rl)
theorem ds_if (hc : DT X W c tc) (h1 : DSs X W sts f) (h2 : DSs X W sts' f') : DS X W (.If c sts sts' pos) (fun s => (tc s).thn fun k s => if k = true then f s else f' s) := by
  refine ps_imp (ps_if hc h1 h2) fun D σ H ⟨va, s, HP, rl, h⟩ => bindTS rl h fun k s1 H1 HP1 st1 q => ?_
  cases k with
  | true => rw [if_pos rfl] at q ⊢; exact ⟨va, s1, HP1, st1.rel, q⟩
  | false => rw [if_neg Bool.false_ne_true] at q ⊢; exact ⟨va, s1, HP1, st1.rel, q⟩
/-- x = e -/
theorem ds_set (i : Nat) {x : Str} {pos' : Pos} (hN : X.N.Nodup) (ha : DE X W a fa) (hi : X.N[i]? = some x := by rfl) (hx : Loc X.env.scope x := by first | exact Or.inl rfl | exact Or.inr rfl) (hs : swapsWith a (some (.Name x pos')) pos.line X.env = pure false := by rfl)
    (hf : X.fn x = true ∨ X.env.scope.names.lookup x = some .local := by first | exact .inl rfl | exact .inr rfl | assumption) :
    DS X W (.Assign [.Name x pos'] a pos) (fun s => (fa s).thn fun d s => .next (s.put i (.val d))) :=
  ps_imp (ps_set hN hi hx ha hs hf) fun D σ H ⟨va, s, HP, rl, h⟩ => bindES rl h fun d s1 v H1 HP1 st1 d1 h1 => h1 _ H1 HP1 (st1.rel.put i d1)
/-- x = [a, b, ..], a list that is to be changed -/
theorem ds_own (i : Nat) {x : Str} {pos' : Pos} (hN : X.N.Nodup) (ha : DA X W es ga) (hi : X.N[i]? = some x := by rfl) (hx : Loc X.env.scope x := by first | exact Or.inl rfl | exact Or.inr rfl) (hs : swapsWith (.List es pos) (some (.Name x pos')) pos.line X.env = pure false := by rfl)
    (hf : X.fn x = true ∨ X.env.scope.names.lookup x = some .local := by first | exact .inl rfl | exact .inr rfl | assumption) {p0 : Pos} (hs' : swapsWith (.List es p0) (some (.Name x pos')) pos.line X.env = pure false := by rfl) :
    DS X W (.Assign [.Name x pos'] (.List es p0) pos) (fun s => (ga s).thn fun ds s => if ds.length ≤ sizeLine then .next (s.put i (.own ds)) else .stuck) := by
  refine ps_imp (ps_set hN hi hx (pe_lst ha) hs' hf) fun D σ H ⟨va, s, HP, rl, h⟩ => ?_
  refine bindA rl (fun ds s1 vs H1 HP1 e st1 d1 => ?_) (fun n p s' dd H' HP' C e stp z m => ?_) (fun e => ?_) <;> simp only [e, R.thn_ok, R.thn_exc, R.thn_stuck] at h
  · split at h
    · rename_i hz
      exact ⟨by rw [d1.length]; exact hz, fun p hp => h _ _ HP1 (st1.trans (st1.rel.putOwn i hp hz d1))⟩
    · exact h.elim
  · exact h dd σ H' HP' C stp z m
  · exact h
/-! ## targets -/
def tDG (X : Cx) (g : D → S → Option S) : TG := fun v σ H Q => ∃ va s HP d s', Rel X.K va s σ HP H ∧ Dv X.K HP v d ∧ g d s = some s' ∧ ∀ σ', Stp X.K va s σ HP H s' σ' HP H → Q σ' H
def DG (X : Cx) (tg : Expr) (g : D → S → Option S) : Prop := PG X tg (tDG X g)
def tDGs (X : Cx) (g : List D → S → Option S) : TGs := fun vs σ H Q => ∃ va s HP ds s', Rel X.K va s σ HP H ∧ DvA X.K HP vs ds ∧ g ds s = some s' ∧ ∀ σ', Stp X.K va s σ HP H s' σ' HP H → Q σ' H
def DGs (X : Cx) (ts : List Expr) (g : List D → S → Option S) : Prop := PGs X ts (tDGs X g)
theorem pg_imp {tg : Expr} {t t' : TG} (h : PG X tg t) (i : ∀ v σ H Q, t' v σ H Q → t v σ H Q) : PG X tg t' := ⟨fun pins s σ H v u Q I r w => h.run pins s σ H v u Q I r (i v σ H Q w)⟩
theorem pgs_imp {ts : List Expr} {t t' : TGs} (h : PGs X ts t) (i : ∀ v σ H Q, t' v σ H Q → t v σ H Q) : PGs X ts t' := ⟨fun pins s σ H v u Q I r w => h.run pins s σ H v u Q I r (i v σ H Q w)⟩
theorem dg_v (i : Nat) {x : Str} (hN : X.N.Nodup) (hi : X.N[i]? = some x := by rfl) (hx : Loc X.env.scope x := by first | exact Or.inl rfl | exact Or.inr rfl)
    (hf : X.fn x = true ∨ X.env.scope.names.lookup x = some .local := by first | exact .inl rfl | exact .inr rfl | assumption) : DG X (.Name x pos) (fun d s => some (s.put i (.val d))) := by
  refine pg_imp (pg_name hN hi hx hf) fun v σ H Q ⟨va, s, HP, d, s', rl, dv, e, k⟩ => ?_
  cases e
  exact k _ (rl.put i dv)
theorem dgs_nil : DGs X [] (fun ds s => match ds with | [] => some s | _ => none) := by
  refine pgs_imp pgs_nil fun v σ H Q ⟨va, s, HP, d, s', rl, dv, e, k⟩ => ?_
  cases d with
  | nil => cases dv; cases e; exact ⟨rfl, k σ (Stp.refl rl)⟩
  | cons _ _ => cases e
theorem dgs_cons {g : D → S → Option S} {gs : List D → S → Option S} (h1 : DG X e g) (h2 : DGs X es gs) (hs : (assignEach (e :: es) X.env).map (·.2) = assign e X.env :: (assignEach es X.env).map (·.2) := by rfl) :
    DGs X (e :: es) (fun ds s => match ds with | d :: r => (g d s).bind (gs r) | _ => none) := by
  refine pgs_imp (pgs_cons h1 h2 hs) fun v σ H Q ⟨va, s, HP, ds, s', rl, dv, eq, k⟩ => ?_
  cases ds with
  | nil => cases eq
  | cons d r =>
    cases dv with
    | @cons v vs _ _ h1 h2 =>
      refine ⟨v, vs, rfl, ?_⟩
      have eq' : (g d s).bind (gs r) = some s' := eq
      cases q : g d s with
      | none => rw [q] at eq'; cases eq'
      | some s1 =>
        rw [q] at eq'
        exact ⟨va, s, HP, d, s1, rl, h1, q, fun σ1 st1 => ⟨va, s1, HP, r, s', st1.rel, h2, eq', fun σ2 st2 => k σ2 (st1.trans st2)⟩⟩
def unT (n : Nat) (g : List D → S → Option S) (d : D) (s : S) : Option S := match d with
  | .tup ds => if ds.length = n then g ds s else none
  | _ => none
theorem dg_tup {k n : Nat} {gs : List D → S → Option S} (hc : X.calm = true) (h : DGs X es gs) (hn : (assignEach es X.env).length = n := by rfl) (hst : (assignEach es X.env).findIdx? (·.1) = none := by rfl) : DG X (.Tuple es k pos) (unT n gs) := by
  refine pg_imp (pg_tup hc h hn hst) fun v σ H Q ⟨va, s, HP, d, s', rl, dv, eq, k⟩ => ?_
  unfold unT at eq
  split at eq
  · split at eq
    · cases dv with
      | @tup a vs ds h1 hz h2 => exact ⟨a, vs, rfl, SqT.of (rl.sub _ _ h1), by rw [h2.length]; assumption, va, s, HP, _, s', rl, h2, eq, k⟩
    · cases eq
  · cases eq
def asg (o : Option S) : T := match o with
  | some s => .next s
  | none => .stuck
@[simp] theorem asg_some (s : S) : asg (some s) = .next s := rfl
/-- target = e -/
theorem ds_asg {tg : Expr} {g : D → S → Option S} (ha : DE X W a fa) (hg : DG X tg g) (hs : swapsWithSole [tg] a pos.line X.env = pure false := by rfl) (hw : swappedStores [tg] a X.env = pure none := by rfl)
    (h1 : (assignEach [tg] X.env).map (·.2) = [assign tg X.env] := by rfl) : DS X W (.Assign [tg] a pos) (fun s => (fa s).thn fun d s => asg (g d s)) := by
  refine ps_imp (ps_asg ha hg hs hw h1) fun D σ H ⟨va, s, HP, rl, h⟩ => bindES rl h fun d s1 v H1 HP1 st1 d1 h1 => ?_
  cases q : g d s1 with
  | none => rw [q] at h1; exact h1.elim
  | some s2 => rw [q] at h1; exact ⟨va, s1, HP1, d, s2, st1.rel, d1, q, fun σ' stp => h1 σ' H1 HP1 stp⟩
/-- a, b = e1, e2; a, b, c = .. -/
theorem ds_par (i j : Nat) {x y : Str} {px py pt : Pos} {kt k2 pt2} (hc : X.calm = true) (hN : X.N.Nodup) (ha : DA X W [a, b] ga) (hi : X.N[i]? = some x := by rfl) (hj : X.N[j]? = some y := by rfl) (hij : i ≠ j := by decide)
    (hx : X.env.scope.names.lookup x = some .local := by rfl) (hy : X.env.scope.names.lookup y = some .local := by rfl)
    (hw : swappedStores [.Tuple [.Name x px, .Name y py] kt pt] (.Tuple [a, b] k2 pt2) X.env = pure (some [x, y]) := by rfl)
    (hs : swapsWithSole [.Tuple [.Name x px, .Name y py] kt pt] (.Tuple [a, b] k2 pt2) pos.line X.env = pure false := by rfl) :
    DS X W (.Assign [.Tuple [.Name x px, .Name y py] kt pt] (.Tuple [a, b] k2 pt2) pos) (fun s => (ga s).thn fun ds s => match ds with | [d, e] => .next ((s.put i (.val d)).put j (.val e)) | _ => .stuck) := by
  refine ps_imp (ps_par hc hN hi hj hij hx hy ha hw hs) fun D σ H ⟨va, s, HP, rl, h⟩ => ?_
  refine bindA rl (fun ds s1 vs H1 HP1 e st1 d1 => ?_) (fun n p s' dd H' HP' C e stp z m => ?_) (fun e => ?_) <;> simp only [e, R.thn_ok, R.thn_exc, R.thn_stuck] at h
  · split at h
    · cases d1 with
      | @cons v _ _ _ h1 h2 =>
        cases h2 with
        | @cons w _ _ _ h3 h4 =>
          cases h4
          have r1 := st1.rel.put i h1
          exact ⟨v, w, rfl, h _ _ HP1 (st1.trans (r1.trans (r1.rel.put j h3)))⟩
    · exact h.elim
  · exact h dd σ H' HP' C stp z m
  · exact h
theorem ds_par3 (i j l : Nat) {x y z : Str} {px py pz pt : Pos} {kt k2 pt2} (hc : X.calm = true) (hN : X.N.Nodup) (ha : DA X W [a, b, c] ga) (hi : X.N[i]? = some x := by rfl) (hj : X.N[j]? = some y := by rfl) (hl : X.N[l]? = some z := by rfl)
    (hij : i ≠ j := by decide) (hil : i ≠ l := by decide) (hjl : j ≠ l := by decide)
    (hx : X.env.scope.names.lookup x = some .local := by rfl) (hy : X.env.scope.names.lookup y = some .local := by rfl) (hz : X.env.scope.names.lookup z = some .local := by rfl)
    (hw : swappedStores [.Tuple [.Name x px, .Name y py, .Name z pz] kt pt] (.Tuple [a, b, c] k2 pt2) X.env = pure (some [x, y, z]) := by rfl)
    (hs : swapsWithSole [.Tuple [.Name x px, .Name y py, .Name z pz] kt pt] (.Tuple [a, b, c] k2 pt2) pos.line X.env = pure false := by rfl) :
    DS X W (.Assign [.Tuple [.Name x px, .Name y py, .Name z pz] kt pt] (.Tuple [a, b, c] k2 pt2) pos) (fun s => (ga s).thn fun ds s => match ds with | [d, e, f] => .next (((s.put i (.val d)).put j (.val e)).put l (.val f)) | _ => .stuck) := by
  refine ps_imp (ps_par3 hc hN hi hj hl hij hil hjl hx hy hz ha hw hs) fun D σ H ⟨va, s, HP, rl, h⟩ => ?_
  refine bindA rl (fun ds s1 vs H1 HP1 e st1 d1 => ?_) (fun n p s' dd H' HP' C e stp z m => ?_) (fun e => ?_) <;> simp only [e, R.thn_ok, R.thn_exc, R.thn_stuck] at h
  · split at h
    · cases d1 with
      | @cons v _ _ _ h1 h2 =>
        cases h2 with
        | @cons w _ _ _ h3 h4 =>
          cases h4 with
          | @cons u _ _ _ h5 h6 =>
            cases h6
            have r1 := st1.rel.put i h1
            have r2 := r1.trans (r1.rel.put j h3)
            exact ⟨v, w, u, rfl, h _ _ HP1 (st1.trans (r2.trans (r2.rel.put l h5)))⟩
    · exact h.elim
  · exact h dd σ H' HP' C stp z m
  · exact h
end
end DL

namespace DL
open PySem PySem.Spec PyProof.Rows L2
/-! ## what is walked -/
def Walks (K : PySem.W.Frag) (J : It) (ds : List D) (HP0 : Hp) : Prop := ∀ (i : Nat) (HP H : Hp), Same HP0 HP → Same HP H →
  (∀ d, ds[i]? = some d → J.go i H ∧ ∀ x H', J.yld i H x H' → ∃ HP', Dv K HP' x d ∧ ∀ va s σ, Rel K va s σ HP H → Stp K va s σ HP H s σ HP' H') ∧ (ds.length ≤ i → J.stop i H)
theorem Walks.mono {K : PySem.W.Frag} {J : It} {ds : List D} {HP0 HP1 : Hp} (w : Walks K J ds HP0) (e : Same HP0 HP1) : Walks K J ds HP1 := fun i HP H a b => w i HP H (e.trans a) b
def PoI (X : Cx) (W : WX) (va : VA) (s : S) (σ : St) (HP H : Hp) (r : R (List D)) (Q : It → Hp → Prop) : Prop := match r with
  | .ok ds s' => ∀ J H' HP', Stp X.K va s σ HP H s' σ HP' H' → ds.length ≤ sizeLine → Walks X.K J ds HP' → Q J H'
  | .exc n p s' => ∀ dd H' HP' C, Stp X.K va s σ HP H s' σ HP' H' → ExcAt p dd H' → ECl X.mg n C → W C dd σ H'
  | .stuck => False
def tDI (X : Cx) (W : WX) (f : S → R (List D)) : TI := fun σ H Q => ∃ va s HP, Rel X.K va s σ HP H ∧ PoI X W va s σ HP H (f s) Q
def DI (X : Cx) (W : WX) (tg e : Expr) (f : S → R (List D)) : Prop := PI X tg e (tDI X W f)
theorem walks_list {K : PySem.W.Frag} {HP0 : Hp} {a : Addr} {vs : List V} {ds : List D} (h : HP0 a = some (.lst vs)) (dv : DvA K HP0 vs ds) : Walks K (Itl K a) ds HP0 := fun i HP H e1 e2 => by
  have q : SqL K H a vs := SqL.of (e2 _ _ (e1 _ _ h))
  refine ⟨fun d hd => ?_, fun hi => ⟨vs, q, by rw [dv.length]; exact hi⟩⟩
  obtain ⟨v, h1, h2⟩ := dv.getD hd
  refine ⟨⟨vs, v, q, h1⟩, fun x H' ⟨y1, y2⟩ => ?_⟩
  subst y1
  have := y2 vs q
  rw [h1] at this
  cases this
  exact ⟨HP, Dv.mono e1 d v h2, fun va s σ r => Stp.refl r⟩
theorem walks_tup {K : PySem.W.Frag} {HP0 : Hp} {a : Addr} {vs : List V} {ds : List D} (h : HP0 a = some (.tup vs)) (dv : DvA K HP0 vs ds) : Walks K (Itt K a) ds HP0 := fun i HP H e1 e2 => by
  have q : SqT K H a vs := SqT.of (e2 _ _ (e1 _ _ h))
  refine ⟨fun d hd => ?_, fun hi => ⟨vs, q, by rw [dv.length]; exact hi⟩⟩
  obtain ⟨v, h1, h2⟩ := dv.getD hd
  refine ⟨⟨vs, v, q, h1⟩, fun x H' ⟨y1, y2⟩ => ?_⟩
  subst y1
  have := y2 vs q
  rw [h1] at this
  cases this
  exact ⟨HP, Dv.mono e1 d v h2, fun va s σ r => Stp.refl r⟩
def rngI (lo hi : Int) : List D := (List.range (hi - lo).toNat).map fun k => .int (lo + ((k : Nat) : Int))
@[simp] theorem rngI_len (lo hi : Int) : (rngI lo hi).length = (hi - lo).toNat := by simp [rngI]
theorem walks_range {K : PySem.W.Frag} {HP0 : Hp} {lo hi : Int} : Walks K (Itr lo (hi - lo).toNat) (rngI lo hi) HP0 := fun i HP H e1 e2 => by
  refine ⟨fun d hd => ?_, fun h => by rw [rngI_len] at h; exact h⟩
  have hlt : i < (hi - lo).toNat := by
    rcases Nat.lt_or_ge i (hi - lo).toNat with z | z
    · exact z
    · rw [List.getElem?_eq_none_iff.mpr (by rw [rngI_len]; exact z)] at hd; cases hd
  have hd' : (.int (lo + ((i : Nat) : Int)) : D) = d := by
    unfold rngI at hd
    rw [List.getElem?_map, List.getElem?_range hlt] at hd
    simpa using hd
  refine ⟨hlt, fun x H' ⟨y1, y2⟩ => ?_⟩
  subst y1 y2 hd'
  exact ⟨HP, .int _, fun va s σ r => Stp.refl r⟩
def asSeq (d : D) (s : S) : R (List D) := match d with
  | .lst ds => .ok ds s
  | .tup ds => .ok ds s
  | _ => .stuck
@[simp] theorem asSeq_lst (ds : List D) (s : S) : asSeq (.lst ds) s = .ok ds s := rfl
@[simp] theorem asSeq_tup (ds : List D) (s : S) : asSeq (.tup ds) s = .ok ds s := rfl
section
variable {X : Cx} {W : WX} {a b c e tg : Expr} {es : List Expr} {fa fb fc : S → R D} {ga : S → R (List D)} {ta tb tc : S → R Bool} {pos p : Pos} {st : Stmt} {sts sts' : List Stmt} {f f' : S → T}
theorem di_seq (ha : DE X W a fa) : DI X W tg a (fun s => (fa s).bind asSeq) := by
  refine ⟨fun pins s σ H Q I h => ?_⟩
  obtain ⟨va, st, HP, rl, h⟩ := h
  dsimp only at h
  have hx : (∃ n p s', fa st = .exc n p s') ∨ (∃ ds s', fa st = .ok (.lst ds) s') ∨ ∃ ds s', fa st = .ok (.tup ds) s' := by
    cases e : fa st with
    | stuck => rw [e] at h; exact h.elim
    | exc n p s' => exact .inl ⟨n, p, s', rfl⟩
    | ok d s' =>
      rw [e] at h
      cases d <;> first | exact h.elim | exact .inr (.inl ⟨_, _, rfl⟩) | exact .inr (.inr ⟨_, _, rfl⟩)
  have hl : ((∃ n p s', fa st = .exc n p s') ∨ ∃ ds s', fa st = .ok (.lst ds) s') → wpAny (model X.prog X.w) X.A (eval a X.env) (fun v s1 => wpAny (model X.prog X.w) X.A (pyIter v) (PIE X pins σ tg Q) X.xe s1) X.xe s := fun hq => by
    refine (pi_list (tg := tg) ha).run pins s σ H Q I (bindE rl (fun d s' v H' HP' e stp dv => ?_) (fun n p s' dd H' HP' C e stp z m => ?_) (fun e => ?_))
    · rcases hq with ⟨_, _, _, q⟩ | ⟨ds, s'', q⟩ <;> rw [q] at e <;> cases e
      rw [q] at h
      cases dv with
      | @lst b vs _ h1 hz h2 => exact ⟨b, rfl, ⟨vs, SqL.of (stp.rel.sub _ _ h1)⟩, h (Itl X.K b) H' HP' stp hz (walks_list h1 h2)⟩
    · rw [e] at h; exact h dd H' HP' C stp z m
    · rw [e] at h; exact h
  rcases hx with hx | hx | ⟨ds, s'', q⟩
  · exact hl (.inl hx)
  · exact hl (.inr hx)
  · refine (pi_tup (tg := tg) ha).run pins s σ H Q I (bindE rl (fun d s' v H' HP' e stp dv => ?_) (fun n p s' dd H' HP' C e stp z m => ?_) (fun e => ?_))
    · rw [q] at e
      cases e
      rw [q] at h
      cases dv with
      | @tup b vs _ h1 hz h2 => exact ⟨b, rfl, ⟨vs, SqT.of (stp.rel.sub _ _ h1)⟩, h (Itt X.K b) H' HP' stp hz (walks_tup h1 h2)⟩
    · rw [q] at e; cases e
    · rw [q] at e; cases e
def toR1 (ds : List D) (s : S) : R (List D) := match ds with
  | [.int j] => if -(2 ^ 62) ≤ j ∧ j ≤ 16000000 then .ok (rngI 0 j) s else .stuck
  | _ => .stuck
def toR2 (ds : List D) (s : S) : R (List D) := match ds with
  | [.int i, .int j] => if -(2 ^ 62) ≤ i ∧ i < 2 ^ 62 ∧ -(2 ^ 62) ≤ j ∧ j < 2 ^ 62 ∧ j - i ≤ 16000000 then .ok (rngI i j) s else .stuck
  | _ => .stuck
theorem di_range1 (hg : Gl X "range") (hm : X.mg "range" = none) (ha : DA X W [a] ga) (hs : starEach [a] X.env = [(false, eval a X.env)] := by rfl) : DI X W tg (.Call (.Name "range" p) [a] [] pos) (fun s => (ga s).bind toR1) := by
  refine ⟨fun pins s σ H Q I h => ?_⟩
  obtain ⟨va, st, HP, rl, h⟩ := h
  dsimp only at h
  refine (pi_range1 hg hm ha hs).run pins s σ H Q I (bindA rl (fun ds s1 vs H1 HP1 e st1 d1 => ?_) (fun n p s' dd H' HP' C e stp z m => ?_) (fun e => ?_)) <;> simp only [e, R.bind_ok, R.bind_exc, R.bind_stuck] at h
  · unfold toR1 at h
    split at h
    · split at h
      · rename_i j hz
        cases d1 with
        | cons h1 h2 =>
          cases h1
          cases h2
          refine ⟨j, rfl, hz.1, by have := hz.2; omega, ?_⟩
          have hw := walks_range (K := X.K) (HP0 := HP1) (lo := 0) (hi := j)
          rw [Int.sub_zero] at hw
          exact h _ H1 HP1 st1 (by rw [rngI_len, sizeLine_eq]; have := hz.2; omega) hw
      · exact h.elim
    · exact h.elim
  · exact h dd H' HP' C stp z m
  · exact h
theorem di_range2 (hg : Gl X "range") (hm : X.mg "range" = none) (ha : DA X W [a, b] ga) (hs : starEach [a, b] X.env = [(false, eval a X.env), (false, eval b X.env)] := by rfl) (hs2 : starEach [b] X.env = [(false, eval b X.env)] := by rfl) :
    DI X W tg (.Call (.Name "range" p) [a, b] [] pos) (fun s => (ga s).bind toR2) := by
  refine ⟨fun pins s σ H Q I h => ?_⟩
  obtain ⟨va, st, HP, rl, h⟩ := h
  dsimp only at h
  refine (pi_range2 hg hm ha hs hs2).run pins s σ H Q I (bindA rl (fun ds s1 vs H1 HP1 e st1 d1 => ?_) (fun n p s' dd H' HP' C e stp z m => ?_) (fun e => ?_)) <;> simp only [e, R.bind_ok, R.bind_exc, R.bind_stuck] at h
  · unfold toR2 at h
    split at h
    · split at h
      · rename_i i j hz
        obtain ⟨z1, z2, z3, z4, z5⟩ := hz
        cases d1 with
        | cons h1 h2 =>
          cases h1
          cases h2 with
          | cons h3 h4 =>
            cases h3
            cases h4
            exact ⟨i, j, rfl, ⟨z1, z2, z3, z4⟩, h _ H1 HP1 st1 (by rw [rngI_len, sizeLine_eq]; omega) walks_range⟩
      · exact h.elim
    · exact h.elim
  · exact h dd H' HP' C stp z m
  · exact h
/-! ## for -/
def forL (g : D → S → Option S) (body : S → T) : List D → S → T
  | [], s => .next s
  | d :: ds, s => match g d s with
    | none => .stuck
    | some s1 => match body s1 with
      | .next s2 => forL g body ds s2
      | .cnt s2 => forL g body ds s2
      | .brk s2 => .next s2
      | r => r
theorem ds_for {g : D → S → Option S} {fi : S → R (List D)} (hp : PassesOwn (model X.prog X.w) X.A X.env X.xe) (hc : X.calm = true) (hi : DI X W tg e fi) (hg : DG X tg g) (hb : DSs X W sts f) (hs : ∀ x, foldedSetIterable e X.env x = pure x := by intro _; rfl) :
    DS X W (.For tg e sts [] pos) (fun s => (fi s).thn fun ds s => forL g f ds s) := by
  refine ps_imp (ps_for hp hc hi hg hb hs) fun D σ H h => ?_
  obtain ⟨va, s, HP, rl, h⟩ := h
  dsimp only at h
  refine ⟨va, s, HP, rl, ?_⟩
  cases ei : fi s with
  | stuck => rw [ei] at h; exact h
  | exc n p s' => rw [ei] at h; exact fun dd H' HP' C stp z m => h dd σ H' HP' C stp z m
  | ok ds s1 =>
    rw [ei] at h
    intro J H1 HP1 st1 hz hw
    have h1 : PoS X W va s1 σ HP1 H1 (forL g f ds s1) D := PoS.from st1 h
    refine ⟨fun i m σ H => ∃ s HP, m = ds.length - i ∧ i ≤ ds.length ∧ Rel X.K va s σ HP H ∧ Same HP1 HP ∧ PoS X W va s σ HP H (forL g f (ds.drop i) s) D, ⟨ds.length, s1, HP1, by simp, Nat.zero_le _, st1.rel, Same.refl _, h1⟩, ?_⟩
    rintro i m σ2 H2 ⟨s2, HP2, rfl, hle, r2, sm, p2⟩
    obtain ⟨w1, w2⟩ := hw i HP2 H2 sm r2.sub
    by_cases hlt : i < ds.length
    · have hd : ds[i]? = some ds[i] := List.getElem?_eq_getElem hlt
      obtain ⟨hgo, hy⟩ := w1 _ hd
      rw [List.drop_eq_getElem_cons hlt] at p2
      unfold forL at p2
      refine .inr ⟨hgo, fun σ' H' => ∃ s HP, Rel X.K va s σ' HP H' ∧ Same HP1 HP ∧ PoS X W va s σ' HP H' (forL g f (ds.drop (i + 1)) s) D, fun σ' H' ⟨s', HP', q1, q2, q3⟩ => ⟨ds.length - (i + 1), by omega, s', HP', rfl, hlt, q1, q2, q3⟩, fun x H' y => ?_⟩
      obtain ⟨HP', dv, stp⟩ := hy x H' y
      have st3 := stp va s2 σ2 r2
      cases eg : g ds[i] s2 with
      | none => rw [eg] at p2; exact p2.elim
      | some s4 =>
        rw [eg] at p2
        dsimp only at p2
        refine ⟨va, s2, HP', _, s4, st3.rel, dv, eg, fun σ4 st4 => ?_⟩
        refine ⟨va, s4, HP', st4.rel, ?_⟩
        have p4 := PoS.from (st3.trans st4) p2
        cases eb : f s4 with
        | stuck => rw [eb] at p4; exact p4
        | next s5 => rw [eb] at p4; exact fun σ' H'' HP'' st5 => ⟨s5, HP'', st5.rel, (sm.trans st3.same).trans st5.same, PoS.from st5 p4⟩
        | cnt s5 => rw [eb] at p4; exact fun σ' H'' HP'' st5 => ⟨s5, HP'', st5.rel, (sm.trans st3.same).trans st5.same, PoS.from st5 p4⟩
        | brk s5 => rw [eb] at p4; exact p4
        | ret d s5 => rw [eb] at p4; exact p4
        | retO d s5 => rw [eb] at p4; exact p4
        | exc n p s5 => rw [eb] at p4; exact p4
    · have e : ds.drop i = [] := List.drop_eq_nil_of_le (by omega)
      rw [e] at p2
      exact .inl ⟨w2 (by omega), p2 σ2 H2 HP2 (Stp.refl r2)⟩
/-! ## while: at most so many turns -/
def whl (t : S → R Bool) (body : S → T) : Nat → S → T
  | 0, _ => .stuck
  | n + 1, s => (t s).thn fun k s => if k = true then (match body s with
      | .next s2 => whl t body n s2
      | .cnt s2 => whl t body n s2
      | .brk s2 => .next s2
      | r => r) else .next s
theorem ds_while (n : Nat) (hp : PassesOwn (model X.prog X.w) X.A X.env X.xe) (hc : DT X W c tc) (hb : DSs X W sts f) : DS X W (.While c sts [] pos) (fun s => whl tc f n s) := by
  refine ps_imp (ps_while hp hc hb) fun D σ H h => ?_
  obtain ⟨va, s, HP, rl, h⟩ := h
  refine ⟨fun m σ H => ∃ s HP, Rel X.K va s σ HP H ∧ PoS X W va s σ HP H (whl tc f m s) D, ⟨n, s, HP, rl, h⟩, ?_⟩
  rintro m σ H ⟨s, HP, r, p⟩
  cases m with
  | zero => exact p.elim
  | succ m =>
    unfold whl at p
    refine bindTS r p fun k s1 H1 HP1 st1 p1 => ?_
    cases k with
    | false => rw [if_neg Bool.false_ne_true] at p1 ⊢; exact p1 σ H1 HP1 (Stp.refl st1.rel)
    | true =>
      rw [if_pos rfl] at p1 ⊢
      refine ⟨fun σ' H' => ∃ s HP, Rel X.K va s σ' HP H' ∧ PoS X W va s σ' HP H' (whl tc f m s) D, fun σ' H' ⟨s', HP', q1, q2⟩ => ⟨m, Nat.lt_succ_self m, s', HP', q1, q2⟩, va, s1, HP1, st1.rel, ?_⟩
      cases eb : f s1 with
      | stuck => rw [eb] at p1; exact p1
      | next s5 => rw [eb] at p1; exact fun σ' H'' HP'' st5 => ⟨s5, HP'', st5.rel, PoS.from st5 p1⟩
      | cnt s5 => rw [eb] at p1; exact fun σ' H'' HP'' st5 => ⟨s5, HP'', st5.rel, PoS.from st5 p1⟩
      | brk s5 => rw [eb] at p1; exact p1
      | ret d s5 => rw [eb] at p1; exact p1
      | retO d s5 => rw [eb] at p1; exact p1
      | exc n p s5 => rw [eb] at p1; exact p1
/-! ## lists that are changed -/
/-- x.append(e), x an own list -/
def apnd (i : Nat) (d : D) (s : S) : T := match s.sl[i]? with
  | some (some (.own xs)) => if xs.length < sizeLine then .next (s.put i (.own (xs ++ [d]))) else .stuck
  | _ => .stuck
def isOwn (i : Nat) (s : S) : Bool := match s.sl[i]? with
  | some (some (.own _)) => true
  | _ => false
theorem ds_append (i : Nat) {x : Str} {p2 ap cp : Pos} (ha : DE X W a fa) (hN : X.N[i]? = some x := by rfl) (hv : Vis X.env.scope x := by first | exact Or.inl rfl | exact Or.inr (Or.inl rfl) | exact Or.inr (Or.inr rfl))
    (hd : (x == ("__debug__" : Str)) = false := by decide) (hcd : (x == ("__classdict__" : Str)) = false := by decide)
    (hb : attributeBase (.Name x p2) "append" X.env (eval (.Name x p2) X.env) = eval (.Name x p2) X.env := by rfl) (hline : (ap.endLine == cp.line) = true := by rfl)
    (he : starEach (a :: []) X.env = (false, eval a X.env) :: starEach [] X.env := by rfl)
    (hfew : ((backTo cp (starEach (a :: []) X.env)).all (fun x => !x.1) && (backToKw cp (keywordEach [] X.env)).all (fun x => x.1.isSome) && decide ((a :: []).length + ([] : List Keyword).length + (if ([] : List Keyword).isEmpty then 0 else 1) < 30)) = true := by rfl)
    (hs : swapsWith (.Call (.Attribute (.Name x p2) "append" ap) [a] [] cp) none pos.line X.env = pure false := by rfl) :
    DS X W (.Expr (.Call (.Attribute (.Name x p2) "append" ap) [a] [] cp) pos) (fun s => if isOwn i s = true then (fa s).thn fun d s => apnd i d s else .stuck) := by
  refine ps_imp (ps_expr (pe_bm PySem.F.plainAttrs_list PySem.F.slot_list_append PySem.F.type_list_append mt_append (pv i hN hv hd hcd) (pa_cons ha pa_nil he) hb hfew hline he rfl) hs) fun D σ H h => ?_
  obtain ⟨va, s, HP, rl, h⟩ := h
  dsimp only at h
  split at h
  · rename_i ho
    unfold isOwn at ho
    split at ho
    · rename_i xs q
      obtain ⟨b, vs, h1, h2, h3, hz, h4⟩ := rl.own i xs q
      refine ⟨_, h1, .inl ⟨rfl, vs, SqL.of h3⟩, ?_⟩
      refine bindES rl h fun d s1 v H1 HP1 st1 d1 p1 => ?_
      unfold apnd at p1
      split at p1
      · rename_i ys q1
        split at p1
        · rename_i hl
          obtain ⟨b', ws, y1, y2, y3, yz, y4⟩ := st1.rel.own i ys q1
          rw [h1] at y1
          injection y1 with y1; injection y1 with y1; injection y1 with y1
          subst y1
          refine ⟨b, ws, v, rfl, rfl, y3, by rw [y4.length]; exact hl, ?_⟩
          exact p1 σ _ HP1 (st1.rel.chg q1 h1 (by rw [List.length_append, List.length_singleton]; exact hl) (y4.append (.cons d1 .nil)))
        · exact p1.elim
      · exact p1.elim
    · cases ho
  · exact h.elim
/-- x[e], x the lent list or an own one, read as it stands -/
def refS (i : Nat) (s : S) : Option (List D) := match s.sl[i]? with
  | some (some .via) => s.via
  | some (some (.own xs)) => some xs
  | _ => none
theorem Rel.refS {K : PySem.W.Frag} {va : VA} {s : S} {σ : St} {HP H : Hp} (r : Rel K va s σ HP H) {i : Nat} {xs : List D} (e : refS i s = some xs) : ∃ a vs, σ[i]? = some (some (.ref a)) ∧ H a = some (.lst vs) ∧ xs.length ≤ sizeLine ∧ DvA K HP vs xs := by
  unfold DL.refS at e
  split at e
  · rename_i q
    obtain ⟨h1, vs, h2, h3, h4⟩ := r.vst xs e
    exact ⟨va.a, vs, (r.vis i q).1, h2, h3, h4⟩
  · rename_i ys q
    cases e
    obtain ⟨a, vs, h1, h2, h3, h4, h5⟩ := r.own i xs q
    exact ⟨a, vs, h1, h3, h4, h5⟩
  · cases e
def ixR (i : Nat) (y : D) (s : S) : R D := match refS i s with
  | some xs => lift (opIx (.lst xs) y) s
  | none => .stuck
theorem de_ixr (i : Nat) {x : Str} {p2 : Pos} (hb : DE X W b fb) (hN : X.N[i]? = some x := by rfl) (hv : Vis X.env.scope x := by first | exact Or.inl rfl | exact Or.inr (Or.inl rfl) | exact Or.inr (Or.inr rfl))
    (hd : (x == ("__debug__" : Str)) = false := by decide) (hcd : (x == ("__classdict__" : Str)) = false := by decide) (hs : PlainIx b := by exact fun _ _ => rfl) :
    DE X W (.Subscript (.Name x p2) b pos) (fun s => if (refS i s).isSome = true then (fb s).bind fun y s => ixR i y s else .stuck) := by
  refine pe_imp (pe_ix ix_list (pv i hN hv hd hcd) hb hs) fun σ H Q h => ?_
  obtain ⟨va, s, HP, rl, h⟩ := h
  dsimp only at h
  split at h
  · rename_i ho
    obtain ⟨xs, q⟩ := Option.isSome_iff_exists.mp ho
    obtain ⟨c, vs, h1, h2, h3, h4⟩ := rl.refS q
    refine ⟨_, h1, ?_⟩
    refine bindEE rl h fun y s1 v H1 HP1 st1 d1 p1 => ?_
    unfold ixR at p1
    split at p1
    · rename_i ys q1
      obtain ⟨c', ws, y1, y2, y3, y4⟩ := st1.rel.refS q1
      rw [h1] at y1
      injection y1 with y1; injection y1 with y1; injection y1 with y1
      subst y1
      cases d1 <;> try exact p1.elim
      rename_i k
      cases z : L2.atI ys k with
      | none => simp only [opIx, z] at p1; exact p1.elim
      | some d =>
        simp only [opIx, z] at p1
        obtain ⟨w, z1, z2⟩ := y4.atI z
        exact ⟨c, ws, k, w, rfl, rfl, SqL.of y2, z1, p1.fin st1.rel z2⟩
    · exact p1.elim
  · exact h.elim
/-- x[e] = a, x the lent list or an own one -/
def setR (i : Nat) (y d : D) (s : S) : T := match y with
  | .int k => match s.sl[i]? with
    | some (some .via) => match s.via with
      | some xs => match ixN xs.length k with
        | some j => .next ⟨s.sl, some (xs.set j d)⟩
        | none => .stuck
      | none => .stuck
    | some (some (.own xs)) => match ixN xs.length k with
      | some j => .next (s.put i (.own (xs.set j d)))
      | none => .stuck
    | _ => .stuck
  | _ => .stuck
theorem ds_setr (i : Nat) {x : Str} {p2 p3 : Pos} (ha : DE X W a fa) (hb : DE X W b fb) (hN : X.N[i]? = some x := by rfl) (hv : Vis X.env.scope x := by first | exact Or.inl rfl | exact Or.inr (Or.inl rfl) | exact Or.inr (Or.inr rfl))
    (hd : (x == ("__debug__" : Str)) = false := by decide) (hcd : (x == ("__classdict__" : Str)) = false := by decide)
    (hsa : ∀ v, assign (.Subscript (.Name x p2) b p3) X.env v = (do
      let ov ← holding [v] (eval (.Name x p2) X.env)
      let iv ← holding [v, ov] (eval b X.env)
      standAt p3
      holding [v, ov, iv] (setItem ov iv v)
      release [v, ov, iv] []) := by intro _; rfl)
    (hs : swapsWithSole [.Subscript (.Name x p2) b p3] a pos.line X.env = pure false := by rfl) (hw : swappedStores [.Subscript (.Name x p2) b p3] a X.env = pure none := by rfl)
    (h1 : (assignEach [.Subscript (.Name x p2) b p3] X.env).map (·.2) = [assign (.Subscript (.Name x p2) b p3) X.env] := by rfl) :
    DS X W (.Assign [.Subscript (.Name x p2) b p3] a pos) (fun s => (fa s).thn fun d s => if (refS i s).isSome = true then (fb s).thn fun y s => setR i y d s else .stuck) := by
  refine ps_imp (ps_asg ha (pg_sub (pv i hN hv hd hcd) hb set_list hsa) hs hw h1) fun D σ H h => ?_
  obtain ⟨va, s, HP, rl, h⟩ := h
  refine bindES rl h fun d s1 v H1 HP1 st1 d1 p1 => ?_
  split at p1
  · rename_i ho
    obtain ⟨xs, q⟩ := Option.isSome_iff_exists.mp ho
    obtain ⟨c, vs, z1, z2, z3, z4⟩ := st1.rel.refS q
    refine ⟨_, z1, ?_⟩
    refine bindES st1.rel p1 fun y s2 u H2 HP2 st2 d2 p2 => ?_
    have dv := Dv.mono st2.same d v d1
    have rl2 := st2.rel
    unfold setR at p2
    split at p2
    · cases d2
      rename_i k
      split at p2
      · rename_i q2
        split at p2
        · rename_i ys q3
          split at p2
          · rename_i j q4
            obtain ⟨y1, ws, y2, y3, y4⟩ := rl2.vst ys q3
            have y0 := (rl2.vis i q2).1
            rw [z1] at y0
            injection y0 with y0; injection y0 with y0; injection y0 with y0
            subst y0
            exact ⟨va.a, ws, k, j, rfl, rfl, y2, by rw [y4.length]; exact q4, p2 σ _ HP2 (rl2.chgV q3 (by rw [List.length_set]; exact y3) (y4.set dv j))⟩
          · exact p2.elim
        · exact p2.elim
      · rename_i ys q2
        split at p2
        · rename_i j q4
          obtain ⟨b', ws, y1, y2, y3, yz, y4⟩ := rl2.own i ys q2
          have y0 := y1
          rw [z1] at y0
          injection y0 with y0; injection y0 with y0; injection y0 with y0
          subst y0
          exact ⟨c, ws, k, j, rfl, rfl, y3, by rw [y4.length]; exact q4, p2 σ _ HP2 (rl2.chg q2 z1 (by rw [List.length_set]; exact yz) (y4.set dv j))⟩
        · exact p2.elim
      · exact p2.elim
    · exact p2.elim
  · exact p1.elim
end
end DL

namespace DL
open PySem PySem.Spec PyProof.Rows L2
/-! ## what a def is worth -/
inductive FR where
  | ok (d : D) (w : Option (List D)) | own (xs : List D) (w : Option (List D)) | exc (n : Str) (p : Option Int) (w : Option (List D)) | stuck
/-- the arguments (without the lent list), the lent list -/
abbrev FM := List D → Option (List D) → FR
structure FG (K : PySem.W.Frag) (va : VA) (w : Option (List D)) (HP H : Hp) (w' : Option (List D)) (HP' H' : Hp) : Prop where
  sub : Same HP' H'
  same : Same HP HP'
  keep : ∀ b o, H b = some o → NT o → (w ≠ none → b ≠ va.a) → H' b = some o ∧ (HP b = none → HP' b = none)
  via : w = none ↔ w' = none
  vst : ∀ xs, w' = some xs → HP' va.a = none ∧ ∃ vs, H' va.a = some (.lst vs) ∧ xs.length ≤ sizeLine ∧ DvA K HP' vs xs
  tab : TB lamT HP' H'
  kob : ∀ b dx fs, H b = some (.ins objC dx fs) → HP b = none → H' b = some (.ins objC dx fs) ∧ HP' b = none
/-- the arguments as the caller lays them -/
def Args (K : PySem.W.Frag) (va : VA) (HP H : Hp) (vs vs' : List V) : Option (List D) → Prop
  | none => vs = vs'
  | some xs => vs = .ref va.a :: vs' ∧ HP va.a = none ∧ ∃ us, H va.a = some (.lst us) ∧ xs.length ≤ sizeLine ∧ DvA K HP us xs
def PoF (K : PySem.W.Frag) (mg : Str → Option Value) (va : VA) (w : Option (List D)) (HP H : Hp) (r : FR) (Q : VK) (E : XK) : Prop := match r with
  | .ok d w' => ∀ v H' HP', FG K va w HP H w' HP' H' → Dv K HP' v d → Q v H'
  | .own xs w' => ∀ p vs H' HP', FG K va w HP H w' HP' H' → H' p = none → xs.length ≤ sizeLine → DvA K HP' vs xs → Q (.ref p) (upd H' p (.lst vs))
  | .exc n p w' => ∀ dd H' HP' C, FG K va w HP H w' HP' H' → ExcAt p dd H' → ECl mg n C → E C dd H'
  | .stuck => False
def spD (K : PySem.W.Frag) (mg : Str → Option Value) (n : Nat) (m : FM) : Sp := fun vs H Q E => ∃ va HP ds w vs', vs.length = n ∧ Same HP H ∧ DvA K HP vs' ds ∧ Args K va HP H vs vs' w ∧ TB lamT HP H ∧ PoF K mg va w HP H (m ds w) Q E
/-- a def of the text keeps m -/
abbrev FnD (P : Program) (w : World) (K : PySem.W.Frag) (mg : Str → Option Value) (base : Heap) (k : Nat) (f : Addr) (fd : FuncData) (ps : List Str) (m : FM) : Prop := FnOk P w K mg base (L2.CX P w) k f fd ps (spD K mg ps.length m)
def stD (N : List Str) (ds : List D) : Option (List D) → S
  | none => ⟨ds.map (fun d => some (Sl.val d)) ++ List.replicate (N.length - ds.length) none, none⟩
  | some xs => ⟨some .via :: (ds.map (fun d => some (Sl.val d)) ++ List.replicate (N.length - (ds.length + 1)) none), some xs⟩
def T.fin : T → FR
  | .ret d s => .ok d s.via
  | .retO d s => .own d s.via
  | .next s => .ok .non s.via
  | .exc n p s => .exc n p s.via
  | _ => .stuck
@[simp] theorem T.fin_ret (d : D) (s : S) : (T.ret d s).fin = .ok d s.via := rfl
@[simp] theorem T.fin_retO (d : List D) (s : S) : (T.retO d s).fin = .own d s.via := rfl
@[simp] theorem T.fin_next (s : S) : (T.next s).fin = .ok .non s.via := rfl
@[simp] theorem T.fin_exc (n : Str) (p : Option Int) (s : S) : (T.exc n p s).fin = .exc n p s.via := rfl
theorem vals_start {K : PySem.W.Frag} {HP : Hp} {vs : List V} {ds : List D} (h : DvA K HP vs ds) {r : List (Option Sl)} {r' : List (Option V)} (hr : ∀ (i : Nat), r[i]? = some none ∨ r[i]? = none) : ∀ (i : Nat) d, (ds.map (fun d => some (Sl.val d)) ++ r)[i]? = some (some (.val d)) → ∃ v, (vs.map some ++ r')[i]? = some (some v) ∧ Dv K HP v d := fun i d q => by
  rcases Nat.lt_or_ge i ds.length with z | z
  · rw [List.getElem?_append_left (by simpa using z), List.getElem?_map, List.getElem?_eq_getElem z] at q
    have q' : ds[i] = d := by simpa using q
    subst q'
    obtain ⟨v, h1, h2⟩ := h.getD (List.getElem?_eq_getElem z)
    refine ⟨v, ?_, h2⟩
    rw [List.getElem?_append_left (by rw [List.length_map, h.length]; exact z), List.getElem?_map, h1]
    rfl
  · rw [List.getElem?_append_right (by simpa using z)] at q
    rcases hr (i - (ds.map (fun d => some (Sl.val d))).length) with e | e <;> rw [e] at q <;> cases q
theorem not_start {ds : List D} {r : List (Option Sl)} (hr : ∀ (i : Nat), r[i]? = some none ∨ r[i]? = none) {i : Nat} {x : Sl} (q : (ds.map (fun d => some (Sl.val d)) ++ r)[i]? = some (some x)) : ∃ d, x = .val d := by
  rcases Nat.lt_or_ge i ds.length with z | z
  · rw [List.getElem?_append_left (by simpa using z), List.getElem?_map, List.getElem?_eq_getElem z] at q
    exact ⟨ds[i], by simpa using q.symm⟩
  · rw [List.getElem?_append_right (by simpa using z)] at q
    rcases hr (i - (ds.map (fun d => some (Sl.val d))).length) with e | e <;> rw [e] at q <;> cases q
theorem rep_none (n i : Nat) : (List.replicate n (none : Option Sl))[i]? = some none ∨ (List.replicate n (none : Option Sl))[i]? = none := by
  rcases Nat.lt_or_ge i n with z | z
  · left; rw [List.getElem?_replicate, if_pos z]
  · right; exact List.getElem?_eq_none_iff.mpr (by simpa using z)
theorem rel_start {K : PySem.W.Frag} {va : VA} {HP H : Hp} {vs vs' : List V} {ds : List D} {w : Option (List D)} {N : List Str} (hn : vs.length ≤ N.length) (sm : Same HP H) (h : DvA K HP vs' ds) (a : Args K va HP H vs vs' w) (tb : TB lamT HP H) : Rel K va (stD N ds w) (start N vs) HP H := by
  cases w with
  | none =>
    have e : vs = vs' := a
    subst e
    refine ⟨?_, sm, vals_start h (rep_none _), fun i xs q => ?_, fun i q => ?_, fun xs q => (by cases q), fun i j xs ys b _ q => ?_, fun i xs q => ?_, tb, ⟨fun i n p q => ?_, fun i j n p n' p' b _ q => ?_, fun i n p b q => ?_⟩⟩
    · simp [stD, L2.start, h.length]
    all_goals obtain ⟨d, e⟩ := not_start (rep_none _) q; cases e
  | some xs =>
    obtain ⟨e, h1, us, h2, h3, h4⟩ := a
    subst e
    have nt : ∀ (i : Nat) (x : Sl), (stD N ds (some xs)).sl[i]? = some (some x) → (i = 0 ∧ x = .via) ∨ (∃ j d, i = j + 1 ∧ x = .val d ∧ (ds.map (fun d => some (Sl.val d)) ++ List.replicate (N.length - (ds.length + 1)) none)[j]? = some (some (.val d))) := fun i x q => by
      cases i with
      | zero => left; exact ⟨rfl, by simpa [stD] using q.symm⟩
      | succ j =>
        right
        have q' : (ds.map (fun d => some (Sl.val d)) ++ List.replicate (N.length - (ds.length + 1)) none)[j]? = some (some x) := by simpa [stD] using q
        obtain ⟨d, e⟩ := not_start (rep_none _) q'
        subst e
        exact ⟨j, d, rfl, rfl, q'⟩
    have st : start N (.ref va.a :: vs') = some (.ref va.a) :: (vs'.map some ++ List.replicate (N.length - (vs'.length + 1)) none) := rfl
    rw [st]
    refine ⟨?_, sm, fun i d q => ?_, fun i ys q => ?_, fun i q => ?_, fun ys q => ?_, fun i j ys zs b _ q => ?_, fun i ys q => ?_, tb, ⟨fun i n p q => ?_, fun i j n p n' p' b _ q => ?_, fun i n p b q => ?_⟩⟩
    · simp [stD, h.length]
    · rcases nt i _ q with ⟨rfl, e⟩ | ⟨j, d', rfl, e, q'⟩
      · cases e
      · cases e
        obtain ⟨v, y1, y2⟩ := vals_start h (r' := List.replicate (N.length - (vs'.length + 1)) none) (rep_none _) j d q'
        exact ⟨v, by simpa using y1, y2⟩
    · rcases nt i _ q with ⟨rfl, e⟩ | ⟨j, d', rfl, e, q'⟩ <;> cases e
    · rcases nt i _ q with ⟨rfl, e⟩ | ⟨j, d', rfl, e, q'⟩
      · exact ⟨rfl, by simp [stD]⟩
      · cases e
    · have : xs = ys := by simpa [stD] using q
      subst this
      exact ⟨h1, us, h2, h3, h4⟩
    · rcases nt i _ q with ⟨rfl, e⟩ | ⟨j, d', rfl, e, q'⟩ <;> cases e
    · rcases nt i _ q with ⟨rfl, e⟩ | ⟨j, d', rfl, e, q'⟩ <;> cases e
    · rcases nt i _ q with ⟨rfl, e⟩ | ⟨j, d', rfl, e, q'⟩ <;> cases e
    · rcases nt i _ q with ⟨rfl, e⟩ | ⟨j, d', rfl, e, q'⟩ <;> cases e
    · rcases nt i _ q with ⟨rfl, e⟩ | ⟨j, d', rfl, e, q'⟩ <;> cases e
theorem stD_via (N : List Str) (ds : List D) (w : Option (List D)) : (stD N ds w).via = w := by cases w <;> rfl
theorem stD_own {N : List Str} {ds : List D} {w : Option (List D)} {i : Nat} {xs : List D} : (stD N ds w).sl[i]? ≠ some (some (.own xs)) := by
  cases w with
  | none =>
    intro q
    obtain ⟨d, e⟩ := not_start (rep_none _) q
    cases e
  | some ys =>
    intro q
    cases i with
    | zero => simp [stD] at q
    | succ j =>
      have q' : (ds.map (fun d => some (Sl.val d)) ++ List.replicate (N.length - (ds.length + 1)) none)[j]? = some (some (.own xs)) := by simpa [stD] using q
      obtain ⟨d, e⟩ := not_start (rep_none _) q'
      cases e
theorem stD_obj {N : List Str} {ds : List D} {w : Option (List D)} {i : Nat} {n p : D} : (stD N ds w).sl[i]? ≠ some (some (.obj n p)) := by
  cases w with
  | none =>
    intro q
    obtain ⟨d, e⟩ := not_start (rep_none _) q
    cases e
  | some ys =>
    intro q
    cases i with
    | zero => simp [stD] at q
    | succ j =>
      have q' : (ds.map (fun d => some (Sl.val d)) ++ List.replicate (N.length - (ds.length + 1)) none)[j]? = some (some (.obj n p)) := by simpa [stD] using q
      obtain ⟨d, e⟩ := not_start (rep_none _) q'
      cases e
theorem Stp.fg {K : PySem.W.Frag} {va : VA} {HP H HP' H' : Hp} {N : List Str} {ds : List D} {w : Option (List D)} {σ σ' : St} {s' : S} (a : Stp K va (stD N ds w) σ HP H s' σ' HP' H') : FG K va w HP H s'.via HP' H' where
  sub := a.rel.sub
  same := a.same
  keep := fun b o h nt n => by
    have no : ¬ Owns va (stD N ds w) σ b := fun z => by
      rcases z with ⟨i, xs, q, _⟩ | ⟨q, e⟩
      · exact stD_own q
      · rw [stD_via] at q; exact n q e
    obtain ⟨h1, _, h2⟩ := a.keep b o h nt no
    exact ⟨h1, h2⟩
  via := by have := a.via; rw [stD_via] at this; exact this
  vst := fun xs e => a.rel.vst xs e
  tab := a.rel.tab
  kob := fun b dx fs e n => let ⟨h1, h2, _⟩ := a.kob b dx fs e n fun ⟨_, _, _, q, _⟩ => stD_obj q; ⟨h1, h2⟩
section
variable {P : Program} {w : World} {K : PySem.W.Frag} {mg : Str → Option Value} {base : Heap}
/-- THE RULE for a def -/
theorem fn_d {x qual : Str} {st : Stmt} {f : Addr} {fd : FuncData} {N ps : List Str} {k : Nat} {m : FM} (F : Fun K x qual st f fd) (Sc : FnScope N ps (defScope st))
    (body : ∀ (cdv : Value) (A : Around) (outer : List Env) (s : Shared) (H : Hp) (E : XK), Room k (A.deeper (envOfC qual (defScope st) s.heap.objs.size f cdv)) →
      ∃ f', DSs (cxOf (L2.CX P w) P w K mg base N qual (defScope st) f cdv A outer s H E) (fun cls d _ H => E cls d H) (defBody st) f' ∧ ∀ ds v, m ds v ≠ .stuck → (f' (stD N ds v)).fin = m ds v) :
    FnD P w K mg base (k + 1) f fd ps m := by
  refine F.okX Sc (fun vs H Q E h => ?_) (fun cdv A outer s H vs Q E hr h => ?_)
  · obtain ⟨_, _, _, _, _, e, _⟩ := h; exact e
  · obtain ⟨va, HP, ds, v, vs', e1, sm, dv, ar, tb, po⟩ := h
    obtain ⟨f', hd, hf⟩ := body cdv A outer s H E hr
    have hN : ps.length ≤ N.length := by
      have := congrArg List.length Sc.pre
      rw [List.length_take] at this
      omega
    refine ⟨_, hd, va, stD N ds v, HP, rel_start (by rw [e1]; exact hN) sm dv ar tb, ?_⟩
    have ne : m ds v ≠ .stuck := fun z => by rw [z] at po; exact po
    have e := hf ds v ne
    rw [← e] at po
    cases q : f' (stD N ds v) with
    | stuck => rw [q] at po; exact po
    | brk s' => rw [q] at po; exact po.elim
    | cnt s' => rw [q] at po; exact po.elim
    | next s' => rw [q] at po; exact fun σ' H' HP' stp => po .non H' HP' stp.fg .non
    | ret d s' => rw [q] at po; exact fun v' σ' H' HP' stp dv' => po v' H' HP' stp.fg dv'
    | retO xs s' => rw [q] at po; exact fun p vs σ' H' HP' stp n z dv' => po p vs H' HP' stp.fg n z dv'
    | exc n p s' => rw [q] at po; exact fun dd σ' H' HP' C stp z y => po dd H' HP' C stp.fg z y
end
/-- another saying of the same -/
theorem FnD.re {P : Program} {w : World} {K : PySem.W.Frag} {mg : Str → Option Value} {base : Heap} {k : Nat} {f : Addr} {fd : FuncData} {ps : List Str} {m m' : FM} (F : FnD P w K mg base k f fd ps m) (h : ∀ ds v, m' ds v ≠ .stuck → m ds v = m' ds v) : FnD P w K mg base k f fd ps m' :=
  F.imp fun vs H Q E ⟨va, HP, ds, v, vs', e1, sm, dv, ar, tb, po⟩ => ⟨va, HP, ds, v, vs', e1, sm, dv, ar, tb, by
    have ne : m' ds v ≠ .stuck := fun z => by rw [z] at po; exact po
    rw [h ds v ne]; exact po⟩
/-- a new list as a datum -/
def FR.frz : FR → FR
  | .own xs w => .ok (.lst xs) w
  | r => r
theorem FG.lay {K : PySem.W.Frag} {va : VA} {w w' : Option (List D)} {HP H HP' H' : Hp} (g : FG K va w HP H w' HP' H') {p : Addr} {o : HO} (n : H' p = none) (ho : ∀ ps, o ≠ .tbl ps := by intro _ z; cases z) : FG K va w HP H w' (upd HP' p o) (upd H' p o) := by
  have nP : HP' p = none := g.sub.free n
  have ne : ∀ {b x}, H' b = some x → b ≠ p := fun e => ne_of_none e n
  have sm : Same HP' (upd HP' p o) := fun b x e => by rw [upd_ne (ne_of_none e nP)]; exact e
  refine ⟨fun b x e => ?_, g.same.trans sm, fun b x e nt k => ?_, g.via, fun xs e => ?_, ⟨g.tab.t.ext fun b x e => (by rw [upd_ne (ne e)]; exact e), noTb_upd g.tab.n ho⟩, fun b dx fs e z => ?_⟩
  · by_cases h : b = p
    · subst h; rw [upd_same] at e ⊢; exact e
    · rw [upd_ne h] at e ⊢; exact g.sub b x e
  · obtain ⟨h1, h2⟩ := g.keep b x e nt k
    exact ⟨by rw [upd_ne (ne h1)]; exact h1, fun z => by rw [upd_ne (ne h1)]; exact h2 z⟩
  · obtain ⟨h1, vs, h2, h3, h4⟩ := g.vst xs e
    exact ⟨by rw [upd_ne (ne h2)]; exact h1, vs, by rw [upd_ne (ne h2)]; exact h2, h3, DvA.mono sm xs vs h4⟩
  · obtain ⟨h1, h2⟩ := g.kob b dx fs e z
    exact ⟨by rw [upd_ne (ne h1)]; exact h1, by rw [upd_ne (ne h1)]; exact h2⟩
theorem FnD.frz {P : Program} {w : World} {K : PySem.W.Frag} {mg : Str → Option Value} {base : Heap} {k : Nat} {f : Addr} {fd : FuncData} {ps : List Str} {m : FM} (F : FnD P w K mg base k f fd ps m) : FnD P w K mg base k f fd ps (fun ds v => (m ds v).frz) :=
  F.imp fun vs H Q E ⟨va, HP, ds, v, vs', e1, sm, dv, ar, tb, po⟩ => ⟨va, HP, ds, v, vs', e1, sm, dv, ar, tb, by
    dsimp only at po
    cases q : m ds v with
    | own xs w' =>
      rw [q] at po
      exact fun p vs H' HP' g n z d => po (.ref p) _ _ (g.lay n) (.lst upd_same z (DvA.mono (fun b x e => by rw [upd_ne (ne_of_none e (g.sub.free n))]; exact e) xs vs d))
    | ok d w' => rw [q] at po; exact po
    | exc n p w' => rw [q] at po; exact po
    | stuck => rw [q] at po; exact po⟩
/-! ## calls -/
def callP (m : FM) (n : Nat) (ds : List D) (s : S) : R D := if ds.length = n then (match m ds none with
  | .ok d none => .ok d s
  | .exc n p none => .exc n p s
  | _ => .stuck) else .stuck
def S.setRef (i : Nat) (xs : List D) (s : S) : S := match s.sl[i]? with
  | some (some .via) => ⟨s.sl, some xs⟩
  | _ => s.put i (.own xs)
def callV (i : Nat) (m : FM) (n : Nat) (ds : List D) (s : S) : R D := match refS i s with
  | some xs => if ds.length + 1 = n then (match m ds (some xs) with
    | .ok d (some ys) => .ok d (s.setRef i ys)
    | .exc n p (some ys) => .exc n p (s.setRef i ys)
    | _ => .stuck) else .stuck
  | none => .stuck
section
variable {K : PySem.W.Frag} {va : VA} {s : S} {σ : St} {HP H HP' H' : Hp}
theorem nL {vs : List V} : NT (.lst vs) := ⟨(fun _ z => nomatch z), (fun _ z => nomatch z), (fun _ _ z => nomatch z)⟩
theorem Rel.called (r : Rel K va s σ HP H) {vb : Addr} {q0 q1 : Option Addr} (g : FG K ⟨vb, q0, q1⟩ none HP H none HP' H') : Stp K va s σ HP H s σ HP' H' := by
  have kp : ∀ b o, H b = some o → NT o → H' b = some o ∧ (HP b = none → HP' b = none) := fun b o h nt => g.keep b o h nt fun z => absurd rfl z
  have ko : Obk K va s σ HP H s σ HP' H' := r.ob.step g.same g.kob fun i n p e => ⟨e, rfl⟩
  refine ⟨⟨r.len, g.sub, fun i d q => ?_, fun i xs q => ?_, r.vis, fun xs q => ?_, r.dis, r.dvi, g.tab, ko.ob⟩, g.same, fun b o h nt n => ⟨(kp b o h nt).1, n, (kp b o h nt).2⟩, Iff.rfl, ko.kob⟩
  · obtain ⟨v, h1, h2⟩ := r.val i d q
    exact ⟨v, h1, Dv.mono g.same d v h2⟩
  · obtain ⟨a, vs, h1, h2, h3, hz, h4⟩ := r.own i xs q
    exact ⟨a, vs, h1, (kp a _ h3 nL).2 h2, (kp a _ h3 nL).1, hz, DvA.mono g.same xs vs h4⟩
  · obtain ⟨h1, vs, h2, hz, h3⟩ := r.vst xs q
    exact ⟨(kp va.a _ h2 nL).2 h1, vs, (kp va.a _ h2 nL).1, hz, DvA.mono g.same xs vs h3⟩
/-- behind a call to which the list at slot i was lent -/
theorem Rel.calledV (r : Rel K va s σ HP H) {i : Nat} {vb : Addr} {q0 q1 : Option Addr} {xs ys : List D} (e : DL.refS i s = some xs) (ha : σ[i]? = some (some (.ref vb))) (g : FG K ⟨vb, q0, q1⟩ (some xs) HP H (some ys) HP' H') : Stp K va s σ HP H (s.setRef i ys) σ HP' H' := by
  have kp : ∀ b o, H b = some o → NT o → b ≠ vb → H' b = some o ∧ (HP b = none → HP' b = none) := fun b o h nt n => g.keep b o h nt fun _ => n
  obtain ⟨g1, us, g2, g3, g4⟩ := g.vst ys rfl
  unfold DL.refS at e
  unfold S.setRef
  split at e
  · -- the lent list, lent on
    rename_i q0
    have hvb : vb = va.a := by
      have := (r.vis i q0).1
      rw [ha] at this
      injection this with z; injection z with z; injection z with z
    subst hvb
    simp only [q0]
    have nv : s.via ≠ none := by rw [e]; simp
    have ko : Obk K va s σ HP H ⟨s.sl, some ys⟩ σ HP' H' := r.ob.step g.same g.kob fun i n p e => ⟨e, rfl⟩
    refine ⟨⟨r.len, g.sub, fun i d q => ?_, fun j zs q => ?_, fun j q => ⟨(r.vis j q).1, by simp⟩, fun zs q => ?_, r.dis, fun j zs q n => r.dvi j zs q nv, g.tab, ko.ob⟩, g.same, fun b o h nt n => ?_, by simp [e], ko.kob⟩
    · obtain ⟨v, h1, h2⟩ := r.val i d q
      exact ⟨v, h1, Dv.mono g.same d v h2⟩
    · obtain ⟨a, vs, h1, h2, h3, hz, h4⟩ := r.own j zs q
      have ne : a ≠ va.a := fun z => by subst z; exact r.dvi j zs q nv h1
      exact ⟨a, vs, h1, (kp a _ h3 nL ne).2 h2, (kp a _ h3 nL ne).1, hz, DvA.mono g.same zs vs h4⟩
    · have : ys = zs := by simpa using q
      subst this
      exact ⟨g1, us, g2, g3, g4⟩
    · have ne : b ≠ va.a := fun z => n (.inr ⟨nv, z⟩)
      refine ⟨(kp b o h nt ne).1, fun z => n ?_, (kp b o h nt ne).2⟩
      rcases z with ⟨j, zs, q1, q2⟩ | ⟨_, z⟩
      · exact .inl ⟨j, zs, q1, q2⟩
      · exact .inr ⟨nv, z⟩
  · rename_i xs' q0
    cases e
    simp only [q0]
    have own : ∀ (j : Nat) zs, (s.put i (.own ys)).sl[j]? = some (some (.own zs)) → (j = i ∧ zs = ys) ∨ (j ≠ i ∧ s.sl[j]? = some (some (.own zs))) := fun j zs q => by
      by_cases h : j = i
      · subst h
        have := sl_put_eq q
        injection this with e
        injection e with e
        exact .inl ⟨rfl, e⟩
      · rw [sl_put_ne h] at q; exact .inr ⟨h, q⟩
    have ow : ∀ (j : Nat) zs, (s.put i (.own ys)).sl[j]? = some (some (.own zs)) → ∃ zs, s.sl[j]? = some (some (.own zs)) := fun j zs q => by
      rcases own j zs q with ⟨rfl, rfl⟩ | ⟨nj, q'⟩
      · exact ⟨_, q0⟩
      · exact ⟨zs, q'⟩
    have ko : Obk K va s σ HP H (s.put i (.own ys)) σ HP' H' := r.ob.step g.same g.kob fun j n p q => by
      obtain ⟨h, q'⟩ := put_obj (by intro _ _ z; cases z) q
      exact ⟨q', rfl⟩
    refine ⟨⟨by simpa [S.put] using r.len, g.sub, fun j d q => ?_, fun j zs q => ?_, fun j q => ?_, fun zs q => ?_, fun j k zs ws b n q1 q2 q3 => ?_, fun j zs q n => ?_, g.tab, ko.ob⟩, g.same, fun b o h nt n => ?_, Iff.rfl, ko.kob⟩
    · by_cases h : j = i
      · subst h; cases sl_put_eq q
      · rw [sl_put_ne h] at q
        obtain ⟨v, h1, h2⟩ := r.val j d q
        exact ⟨v, h1, Dv.mono g.same d v h2⟩
    · rcases own j zs q with ⟨rfl, rfl⟩ | ⟨nj, q'⟩
      · exact ⟨vb, us, ha, g1, g2, g3, g4⟩
      · obtain ⟨a, vs, h1, h2, h3, hz, h4⟩ := r.own j zs q'
        have ne : a ≠ vb := fun z => by subst z; exact r.dis i j _ zs a (Ne.symm nj) q0 q' ha h1
        exact ⟨a, vs, h1, (kp a _ h3 nL ne).2 h2, (kp a _ h3 nL ne).1, hz, DvA.mono g.same zs vs h4⟩
    · by_cases h : j = i
      · subst h; cases sl_put_eq q
      · rw [sl_put_ne h] at q; exact r.vis j q
    · obtain ⟨h1, vs, h2, hz, h3⟩ := r.vst zs q
      have q' : s.via = some zs := q
      have ne : va.a ≠ vb := fun z => r.dvi i _ q0 (by rw [q']; simp) (by rw [z]; exact ha)
      exact ⟨(kp va.a _ h2 nL ne).2 h1, vs, (kp va.a _ h2 nL ne).1, hz, DvA.mono g.same zs vs h3⟩
    · obtain ⟨_, q1'⟩ := ow j zs q1
      obtain ⟨_, q2'⟩ := ow k ws q2
      exact r.dis j k _ _ b n q1' q2' q3
    · obtain ⟨_, q'⟩ := ow j zs q
      exact r.dvi j _ q' n
    · have ne : b ≠ vb := fun z => n (.inl ⟨i, _, q0, by rw [z]; exact ha⟩)
      refine ⟨(kp b o h nt ne).1, fun z => n ?_, (kp b o h nt ne).2⟩
      rcases z with ⟨j, zs, q1, q2⟩ | z
      · obtain ⟨_, q1'⟩ := ow j zs q1
        exact .inl ⟨j, _, q1', q2⟩
      · exact .inr z
  · cases e
end
section
variable {X : Cx} {W : WX} {a b c e : Expr} {es : List Expr} {fa fb fc : S → R D} {ga : S → R (List D)} {pos p : Pos} {k n : Nat} {f : Addr} {fd : FuncData} {ps : List Str} {m : FM} {x : Str}
theorem de_call (G : FnD X.prog X.w X.K X.mg X.base k f fd ps m) (hr : Room k X.A) (tk : Takes X W) (hm : X.mg x = some (.ref f)) (hk : PySem.W.keepIn X.K (.ref f) = true) (hb : Binds X.K fd ps []) (ha : DA X W (e :: es) ga)
    (hg : Gl X x := by rfl) (hdb : (x == ("__debug__" : Str)) = false := by decide) (he : starEach (e :: es) X.env = (false, eval e X.env) :: starEach es X.env := by rfl) (hpl : (backTo pos (starEach es X.env)).any (·.1) = false := by rfl) :
    DE X W (.Call (.Name x p) (e :: es) [] pos) (fun s => (ga s).bind fun ds s => callP m ps.length ds s) := by
  refine pe_imp (pe_callS (E := WE W) G hr hg hm hk hb (fun σ => passAt tk σ) ha hdb he hpl) fun σ H Q h => ?_
  obtain ⟨va, s, HP, rl, h⟩ := h
  refine bindAE rl h fun ds s1 vs H1 HP1 st1 d1 h1 => ?_
  unfold callP at h1
  split at h1
  · rename_i hl
    refine ⟨va, HP1, ds, none, vs, by rw [d1.length]; exact hl, st1.rel.sub, d1, rfl, st1.rel.tab, ?_⟩
    split at h1
    · rename_i d e; rw [e]; exact fun v H' HP' g dv => h1 v H' HP' (st1.rel.called g) dv
    · rename_i e; rw [e]; exact fun dd H' HP' C g z y => h1 dd H' HP' C (st1.rel.called g) z y
    · exact h1.elim
  · exact h1.elim
theorem de_callv (i : Nat) {y : Str} {py : Pos} (G : FnD X.prog X.w X.K X.mg X.base k f fd ps m) (hr : Room k X.A) (tk : Takes X W) (hm : X.mg x = some (.ref f)) (hk : PySem.W.keepIn X.K (.ref f) = true) (hb : Binds X.K fd ps []) (ha : DA X W es ga)
    (hN : X.N[i]? = some y := by rfl) (hv : Vis X.env.scope y := by first | exact Or.inl rfl | exact Or.inr (Or.inl rfl) | exact Or.inr (Or.inr rfl)) (hd : (y == ("__debug__" : Str)) = false := by decide) (hcd : (y == ("__classdict__" : Str)) = false := by decide)
    (hg : Gl X x := by rfl) (hdb : (x == ("__debug__" : Str)) = false := by decide) (he : starEach (.Name y py :: es) X.env = (false, eval (.Name y py) X.env) :: starEach es X.env := by rfl) (hpl : (backTo pos (starEach es X.env)).any (·.1) = false := by rfl) :
    DE X W (.Call (.Name x p) (.Name y py :: es) [] pos) (fun s => if (refS i s).isSome = true then (ga s).bind fun ds s => callV i m ps.length ds s else .stuck) := by
  refine pe_imp (pe_callS (E := WE W) G hr hg hm hk hb (fun σ => passAt tk σ) (pa_cons (pv i hN hv hd hcd) ha he) hdb he hpl) fun σ H Q h => ?_
  obtain ⟨va, s, HP, rl, h⟩ := h
  dsimp only at h
  split at h
  · rename_i ho
    obtain ⟨xs, q⟩ := Option.isSome_iff_exists.mp ho
    obtain ⟨vb, us, h1, h2, h3, h4⟩ := rl.refS q
    refine ⟨_, h1, ?_⟩
    refine bindAE rl h fun ds s1 vs H1 HP1 st1 d1 p1 => ?_
    unfold callV at p1
    split at p1
    · rename_i ys q1
      split at p1
      · rename_i hl
        obtain ⟨vb', us', y1, y2, y3, y4⟩ := st1.rel.refS q1
        rw [h1] at y1
        injection y1 with y1; injection y1 with y1; injection y1 with y1
        subst y1
        have nP : HP1 vb = none := by
          unfold refS at q1
          split at q1
          · rename_i z
            have := (st1.rel.vis i z).1
            rw [h1] at this
            injection this with w; injection w with w; injection w with w
            rw [w]
            exact (st1.rel.vst ys q1).1
          · rename_i z
            cases q1
            obtain ⟨b, ws, w1, w2, _⟩ := st1.rel.own i ys z
            rw [h1] at w1
            injection w1 with w; injection w with w; injection w with w
            rw [w]; exact w2
          · cases q1
        refine ⟨⟨vb, none, none⟩, HP1, ds, some ys, vs, by rw [List.length_cons, d1.length]; exact hl, st1.rel.sub, d1, ⟨rfl, nP, us', y2, y3, y4⟩, st1.rel.tab, ?_⟩
        split at p1
        · rename_i d zs e; rw [e]; exact fun v H' HP' g dv => p1 v H' HP' (st1.rel.calledV q1 h1 g) dv
        · rename_i e; rw [e]; exact fun dd H' HP' C g z y => p1 dd H' HP' C (st1.rel.calledV q1 h1 g) z y
        · exact p1.elim
      · exact p1.elim
    · exact p1.elim
  · exact h.elim
/-- x = f(..), the result a list for this slot alone -/
def asgO (i : Nat) (m : FM) (n : Nat) (ds : List D) (s : S) : T := if ds.length = n then (match m ds none with
  | .own xs none => .next (s.put i (.own xs))
  | .exc n p none => .exc n p s
  | _ => .stuck) else .stuck
theorem ds_ownc (i : Nat) {y : Str} {py pos' : Pos} (G : FnD X.prog X.w X.K X.mg X.base k f fd ps m) (hr : Room k X.A) (tk : Takes X W) (hN : X.N.Nodup) (hm : X.mg x = some (.ref f)) (hk : PySem.W.keepIn X.K (.ref f) = true) (hb : Binds X.K fd ps []) (ha : DA X W (e :: es) ga)
    (hi : X.N[i]? = some y := by rfl) (hx : Loc X.env.scope y := by first | exact Or.inl rfl | exact Or.inr rfl) (hs : swapsWith (.Call (.Name x p) (e :: es) [] pos) (some (.Name y py)) pos'.line X.env = pure false := by rfl)
    (hf : X.fn y = true ∨ X.env.scope.names.lookup y = some .local := by first | exact .inl rfl | exact .inr rfl | assumption)
    (hg : Gl X x := by rfl) (hdb : (x == ("__debug__" : Str)) = false := by decide) (he : starEach (e :: es) X.env = (false, eval e X.env) :: starEach es X.env := by rfl) (hpl : (backTo pos (starEach es X.env)).any (·.1) = false := by rfl) :
    DS X W (.Assign [.Name y py] (.Call (.Name x p) (e :: es) [] pos) pos') (fun s => (ga s).thn fun ds s => asgO i m ps.length ds s) := by
  refine ps_imp (ps_set hN hi hx (pe_callS (E := WE W) G hr hg hm hk hb (fun σ => passAt tk σ) ha hdb he hpl) hs hf) fun D σ H h => ?_
  obtain ⟨va, s, HP, rl, h⟩ := h
  dsimp only at h
  refine bindA rl (fun ds s1 vs H1 HP1 q st1 d1 => ?_) (fun n p s' dd H' HP' C q stp z m => ?_) (fun q => ?_) <;> simp only [q, R.thn_ok, R.thn_exc, R.thn_stuck] at h
  · have h1 := PoS.from st1 h
    unfold asgO at h1
    split at h1
    · rename_i hl
      refine ⟨va, HP1, ds, none, vs, by rw [d1.length]; exact hl, st1.rel.sub, d1, rfl, st1.rel.tab, ?_⟩
      split at h1
      · rename_i xs z
        rw [z]
        intro p us H' HP' g n hz dv
        have st2 := st1.rel.called g
        exact h1 _ _ HP' (st2.trans (st2.rel.putOwn i n hz dv))
      · rename_i z; rw [z]; exact fun dd H' HP' C g y1 y2 => h1 dd σ H' HP' C (st1.rel.called g) y1 y2
      · exact h1.elim
    · exact h1.elim
  · exact h dd σ H' HP' C stp z m
  · exact h
end
end DL

namespace DL
open PySem PySem.Spec PyProof.Rows L2
/-! ## calls of what is built in -/
def CallD (X : Cx) (f : Value) (g : List D → Option D) : Prop := ∃ r : List V → Hp → VK → Prop, CallR X f r ∧
  ∀ (W : WX) (va : VA) (s : S) (σ : St) (HP H : Hp) (vs : List V) (ds : List D) (d : D) (Q : VK), Rel X.K va s σ HP H → DvA X.K HP vs ds → g ds = some d → PoE X W va s σ HP H (.ok d s) Q → r vs H Q
def intsOf : List D → Option (List Int)
  | [] => some []
  | .int i :: r => (intsOf r).map (i :: ·)
  | _ => none
@[simp] theorem intsOf_map : ∀ ns : List Int, intsOf (ns.map D.int) = some ns
  | [] => rfl
  | n :: r => by simp [intsOf, intsOf_map r]
theorem intsOf_vals {K : PySem.W.Frag} {H : Hp} : ∀ {ds : List D} {vs : List V} {ns : List Int}, DvA K H vs ds → intsOf ds = some ns → vs = ns.map V.int
  | [], _, ns, h, e => by cases h; cases e; rfl
  | d :: ds, _, ns, h, e => by
    cases h with
    | cons h1 h2 =>
      cases h1 <;> simp [intsOf] at e
      obtain ⟨ms, e1, e2⟩ := e
      subst e2
      rw [intsOf_vals h2 e1]
      rfl
def minL : List Int → Int
  | [] => 0
  | x :: r => r.foldl min x
def maxL : List Int → Int
  | [] => 0
  | x :: r => r.foldl max x
theorem foldl_min : ∀ (r : List Int) (x : Int), (r.foldl min x = x ∨ r.foldl min x ∈ r) ∧ r.foldl min x ≤ x ∧ ∀ y ∈ r, r.foldl min x ≤ y
  | [], x => by simp
  | z :: r, x => by
    obtain ⟨h1, h2, h3⟩ := foldl_min r (min x z)
    refine ⟨?_, ?_, fun y hy => ?_⟩
    · rw [List.foldl_cons]
      rcases h1 with h1 | h1
      · rw [h1]
        rcases Int.le_total x z with h | h
        · left; exact Int.min_eq_left h
        · right; rw [Int.min_eq_right h]; simp
      · right; simp [h1]
    · rw [List.foldl_cons]; exact Int.le_trans h2 (Int.min_le_left _ _)
    · rw [List.foldl_cons]
      rcases List.mem_cons.mp hy with e | e
      · rw [e]; exact Int.le_trans h2 (Int.min_le_right _ _)
      · exact h3 y e
theorem foldl_max : ∀ (r : List Int) (x : Int), (r.foldl max x = x ∨ r.foldl max x ∈ r) ∧ x ≤ r.foldl max x ∧ ∀ y ∈ r, y ≤ r.foldl max x
  | [], x => by simp
  | z :: r, x => by
    obtain ⟨h1, h2, h3⟩ := foldl_max r (max x z)
    refine ⟨?_, ?_, fun y hy => ?_⟩
    · rw [List.foldl_cons]
      rcases h1 with h1 | h1
      · rw [h1]
        rcases Int.le_total x z with h | h
        · right; rw [Int.max_eq_right h]; simp
        · left; exact Int.max_eq_left h
      · right; simp [h1]
    · rw [List.foldl_cons]; exact Int.le_trans (Int.le_max_left _ _) h2
    · rw [List.foldl_cons]
      rcases List.mem_cons.mp hy with e | e
      · rw [e]; exact Int.le_trans (Int.le_max_right _ _) h2
      · exact h3 y e
theorem minL_le {l : List Int} {y : Int} (h : y ∈ l) : minL l ≤ y := by
  cases l with
  | nil => cases h
  | cons x r =>
    rcases List.mem_cons.mp h with e | e
    · rw [e]; exact (foldl_min r x).2.1
    · exact (foldl_min r x).2.2 y e
theorem minL_mem {l : List Int} (h : l ≠ []) : minL l ∈ l := by
  cases l with
  | nil => exact absurd rfl h
  | cons x r =>
    rcases (foldl_min r x).1 with e | e
    · show r.foldl min x ∈ x :: r
      rw [e]; simp
    · exact List.mem_cons_of_mem _ e
theorem le_maxL {l : List Int} {y : Int} (h : y ∈ l) : y ≤ maxL l := by
  cases l with
  | nil => cases h
  | cons x r =>
    rcases List.mem_cons.mp h with e | e
    · rw [e]; exact (foldl_max r x).2.1
    · exact (foldl_max r x).2.2 y e
theorem maxL_mem {l : List Int} (h : l ≠ []) : maxL l ∈ l := by
  cases l with
  | nil => exact absurd rfl h
  | cons x r =>
    rcases (foldl_max r x).1 with e | e
    · show r.foldl max x ∈ x :: r
      rw [e]; simp
    · exact List.mem_cons_of_mem _ e
def gLen : List D → Option D
  | [.lst xs] => some (.int xs.length)
  | [.tup xs] => some (.int xs.length)
  | [.scr xs] => some (.int xs.length)
  | [.str x] => if x.length ≤ sizeLine then some (.int x.length) else none
  | _ => none
def gSum : List D → Option D
  | [.lst xs] => (intsOf xs).map fun ns => .int ns.sum
  | [.tup xs] => (intsOf xs).map fun ns => .int ns.sum
  | _ => none
def gMin : List D → Option D
  | [.lst xs] => (intsOf xs).bind fun ns => if ns = [] then none else some (.int (minL ns))
  | [.int i, .int j] => some (.int (min i j))
  | _ => none
def gMax : List D → Option D
  | [.lst xs] => (intsOf xs).bind fun ns => if ns = [] then none else some (.int (maxL ns))
  | [.int i, .int j] => some (.int (max i j))
  | _ => none
def gAbs : List D → Option D
  | [.int i] => some (.int (if i < 0 then -i else i))
  | _ => none
def gInt : List D → Option D
  | [.int i] => some (.int i)
  | [.bl b] => some (.int (if b then 1 else 0))
  | _ => none
def gTup : List D → Option D
  | [.lst xs] => some (.tup xs)
  | [.tup xs] => some (.tup xs)
  | _ => none
def gLst : List D → Option D
  | [.lst xs] => some (.lst xs)
  | [.tup xs] => some (.lst xs)
  | _ => none
section
variable {X : Cx} {W : WX} {a b c e tg : Expr} {es : List Expr} {fa fb fc : S → R D} {ga : S → R (List D)} {ta tb tc : S → R Bool} {pos p : Pos} {id T : String} {x : Str}
theorem callD_core {g : List D → Option D} {r : List V → Hp → VK → Prop} (h2 : ∀ (W : WX) (va : VA) (s : S) (σ : St) (HP H : Hp) (vs : List V) (ds : List D) (d : D) (Q : VK), Rel X.K va s σ HP H → DvA X.K HP vs ds → g ds = some d → PoE X W va s σ HP H (.ok d s) Q → r vs H Q)
    (σ : St) (H : Hp) (Q : VK) (h : tDE X W (fun s => (ga s).bind fun ds s => lift (g ds) s) σ H Q) : tCB r (tDA X W ga) σ H Q := by
  obtain ⟨va, s, HP, rl, h⟩ := h
  refine bindAE rl h fun ds s1 vs H1 HP1 st1 d1 h1 => ?_
  cases q : g ds with
  | none => rw [q] at h1; exact h1.elim
  | some d => rw [q] at h1; exact h2 W va s1 σ HP1 H1 vs ds d Q st1.rel d1 q h1
theorem de_callB {g : List D → Option D} (o : CallD X (.builtin id) g) (hm : X.mg x = none) (hv : bootBuiltins x = some (.builtin id)) (ha : DA X W (e :: es) ga) (hg : Gl X x := by rfl) (hn : x ≠ "__name__" := by decide) (hdb : (x == ("__debug__" : Str)) = false := by decide)
    (he : starEach (e :: es) X.env = (false, eval e X.env) :: starEach es X.env := by rfl) (hpl : (backTo pos (starEach es X.env)).any (·.1) = false := by rfl) : DE X W (.Call (.Name x p) (e :: es) [] pos) (fun s => (ga s).bind fun ds s => lift (g ds) s) := by
  obtain ⟨r, h1, h2⟩ := o
  exact pe_imp (pe_callB h1 hg hm hv ha hn hdb he hpl) fun σ H Q h => callD_core h2 σ H Q h
theorem de_callT {g : List D → Option D} (o : CallD X (.type T) g) (hm : X.mg x = none) (hv : bootBuiltins x = some (.type T)) (ha : DA X W (e :: es) ga) (hg : Gl X x := by rfl) (hn : x ≠ "__name__" := by decide) (hdb : (x == ("__debug__" : Str)) = false := by decide)
    (he : starEach (e :: es) X.env = (false, eval e X.env) :: starEach es X.env := by rfl) (hpl : (backTo pos (starEach es X.env)).any (·.1) = false := by rfl) : DE X W (.Call (.Name x p) (e :: es) [] pos) (fun s => (ga s).bind fun ds s => lift (g ds) s) := by
  obtain ⟨r, h1, h2⟩ := o
  exact pe_imp (pe_callTy h1 hg hm hv ha hn hdb he hpl) fun σ H Q h => callD_core h2 σ H Q h
theorem cd_len : CallD X (.builtin "len") gLen := by
  refine ⟨_, CallR.or call_len_seq call_len_str, fun W va s σ HP H vs ds d Q rl dv e p => ?_⟩
  unfold gLen at e
  split at e
  · cases e
    cases dv with
    | cons h1 h2 =>
      cases h2
      cases h1 with
      | @lst a ws _ z1 zz z2 => exact .inl ⟨a, ws, rfl, .inl (SqL.of (rl.sub _ _ z1)), by rw [z2.length]; exact fin_int p rl⟩
  · cases e
    cases dv with
    | cons h1 h2 =>
      cases h2
      cases h1 with
      | @tup a ws _ z1 zz z2 => exact .inl ⟨a, ws, rfl, .inr (SqT.of (rl.sub _ _ z1)), by rw [z2.length]; exact fin_int p rl⟩
  · cases e
    rename_i ns
    cases dv with
    | cons h1 h2 =>
      cases h2
      cases h1 with
      | @scr a _ z1 => exact .inl ⟨a, ns.map V.int, rfl, .inl (rl.sub.seq z1), by rw [List.length_map]; exact fin_int p rl⟩
  · split at e <;> cases e
    cases dv with
    | cons h1 h2 =>
      cases h2
      cases h1
      exact .inr ⟨_, rfl, by assumption, fin_int p rl⟩
  · cases e
theorem cr_sumT (hc : X.calm = true) : CallR X (.builtin "sum") (fun vs H Q => ∃ (a : Addr) (ns : List Int), vs = [V.ref a] ∧ SqT X.K H a (ns.map V.int) ∧ Q (.int ns.sum) H) := by
  intro pins s σ H vs us Q I r h
  obtain ⟨a, ns, e0, hs, q⟩ := h
  subst e0
  obtain ⟨its, rv, hl, _⟩ := I.tuple hs
  rw [Vals.ref1 r]
  have hi := rv.ints
  obtain ⟨xs, ex⟩ := hi.allInts.items
  have hn : numsOf (intItems xs).toList = ns := by rw [← ex]; exact hi.numsOf
  rw [nums_intItems] at hn
  rw [ex] at hl
  refine PySem.W.ktm_sumG (I.ok.hd hc) (show s.heap.IsTuple a (intItems xs) from hl) fun h' tk t' hk => ?_
  have hsum : preSum (numAt xs) xs.size = ns.sum := by rw [preSum_eq, List.take_of_length_le (by simp), hn]
  rw [hsum]
  exact ⟨.int ns.sum, H, I.kept hk, ⟨t', rfl⟩, q⟩
theorem cd_sum (hc : X.calm = true) : CallD X (.builtin "sum") gSum := by
  refine ⟨_, CallR.or (cr_sum hc) (cr_sumT hc), fun W va s σ HP H vs ds d Q rl dv e p => ?_⟩
  unfold gSum at e
  split at e
  · rename_i xs
    cases q : intsOf xs with
    | none => rw [q] at e; cases e
    | some ns =>
      rw [q] at e; cases e
      cases dv with
      | cons h1 h2 =>
        cases h2
        cases h1 with
        | @lst a ws _ z1 zz z2 => exact .inl ⟨a, ns, rfl, by rw [← intsOf_vals z2 q]; exact SqL.of (rl.sub _ _ z1), fin_int p rl⟩
  · rename_i xs
    cases q : intsOf xs with
    | none => rw [q] at e; cases e
    | some ns =>
      rw [q] at e; cases e
      cases dv with
      | cons h1 h2 =>
        cases h2
        cases h1 with
        | @tup a ws _ z1 zz z2 => exact .inr ⟨a, ns, rfl, by rw [← intsOf_vals z2 q]; exact SqT.of (rl.sub _ _ z1), fin_int p rl⟩
  · cases e
theorem cd_min (hc : X.calm = true) : CallD X (.builtin "min") gMin := by
  refine ⟨_, CallR.or (cr_min hc) (call_min2 hc), fun W va s σ HP H vs ds d Q rl dv e p => ?_⟩
  unfold gMin at e
  split at e
  · rename_i xs
    cases q : intsOf xs with
    | none => rw [q] at e; cases e
    | some ns =>
      rw [q] at e
      simp only [Option.bind_some] at e
      split at e
      · cases e
      · rename_i hne
        cases e
        cases dv with
        | cons h1 h2 =>
          cases h2
          cases h1 with
          | @lst a ws _ z1 zz z2 =>
            refine .inl ⟨a, ns, rfl, by rw [← intsOf_vals z2 q]; exact SqL.of (rl.sub _ _ z1), List.length_pos_iff.mpr hne, fun m hm hle => ?_⟩
            have : m = minL ns := Int.le_antisymm (hle _ (minL_mem hne)) (minL_le hm)
            rw [this]
            exact fin_int p rl
  · cases e
    cases dv with
    | cons h1 h2 =>
      cases h2 with
      | cons h3 h4 =>
        cases h4; cases h1; cases h3
        rename_i i j
        refine .inr ⟨i, j, rfl, ?_⟩
        have : (if j < i then j else i) = min i j := by rw [Int.min_def]; split <;> split <;> omega
        rw [this]
        exact fin_int p rl
  · cases e
theorem cd_max (hc : X.calm = true) : CallD X (.builtin "max") gMax := by
  refine ⟨_, CallR.or (cr_max hc) (call_max2 hc), fun W va s σ HP H vs ds d Q rl dv e p => ?_⟩
  unfold gMax at e
  split at e
  · rename_i xs
    cases q : intsOf xs with
    | none => rw [q] at e; cases e
    | some ns =>
      rw [q] at e
      simp only [Option.bind_some] at e
      split at e
      · cases e
      · rename_i hne
        cases e
        cases dv with
        | cons h1 h2 =>
          cases h2
          cases h1 with
          | @lst a ws _ z1 zz z2 =>
            refine .inl ⟨a, ns, rfl, by rw [← intsOf_vals z2 q]; exact SqL.of (rl.sub _ _ z1), List.length_pos_iff.mpr hne, fun m hm hle => ?_⟩
            have : m = maxL ns := Int.le_antisymm (le_maxL hm) (hle _ (maxL_mem hne))
            rw [this]
            exact fin_int p rl
  · cases e
    cases dv with
    | cons h1 h2 =>
      cases h2 with
      | cons h3 h4 =>
        cases h4; cases h1; cases h3
        rename_i i j
        refine .inr ⟨i, j, rfl, ?_⟩
        have : (if j > i then j else i) = max i j := by rw [Int.max_def]; split <;> split <;> omega
        rw [this]
        exact fin_int p rl
  · cases e
theorem cd_abs : CallD X (.builtin "abs") gAbs := by
  refine ⟨_, call_abs, fun W va s σ HP H vs ds d Q rl dv e p => ?_⟩
  unfold gAbs at e
  split at e <;> cases e
  cases dv with
  | cons h1 h2 => cases h2; cases h1; exact ⟨_, rfl, fin_int p rl⟩
theorem cd_int : CallD X (.type "int") gInt := by
  refine ⟨_, call_int1, fun W va s σ HP H vs ds d Q rl dv e p => ?_⟩
  unfold gInt at e
  split at e <;> cases e
  · cases dv with
    | cons h1 h2 => cases h2; cases h1; exact .inl ⟨_, rfl, fin_int p rl⟩
  · cases dv with
    | cons h1 h2 => cases h2; cases h1; exact .inr ⟨_, rfl, fin_int p rl⟩
theorem cd_tup : CallD X (.type "tuple") gTup := by
  refine ⟨_, call_tuple_of, fun W va s σ HP H vs ds d Q rl dv e p => ?_⟩
  unfold gTup at e
  split at e <;> cases e
  · cases dv with
    | cons h1 h2 =>
      cases h2
      cases h1 with
      | @lst a ws _ z1 zz z2 => exact ⟨a, ws, rfl, .inl ⟨SqL.of (rl.sub _ _ z1), fun l hl => fin_tup p rl z2 zz l hl⟩⟩
  · cases dv with
    | cons h1 h2 =>
      cases h2
      cases h1 with
      | @tup a ws _ z1 zz z2 => exact ⟨a, ws, rfl, .inr ⟨SqT.of (rl.sub _ _ z1), p.fin rl (.tup z1 zz z2)⟩⟩
theorem cd_lst : CallD X (.type "list") gLst := by
  refine ⟨_, call_list_of, fun W va s σ HP H vs ds d Q rl dv e p => ?_⟩
  unfold gLst at e
  split at e <;> cases e
  · cases dv with
    | cons h1 h2 =>
      cases h2
      cases h1 with
      | @lst a ws _ z1 zz z2 => exact ⟨a, ws, rfl, .inl (SqL.of (rl.sub _ _ z1)), fun l hl => fin_lst p rl z2 zz l hl⟩
  · cases dv with
    | cons h1 h2 =>
      cases h2
      cases h1 with
      | @tup a ws _ z1 zz z2 => exact ⟨a, ws, rfl, .inr (SqT.of (rl.sub _ _ z1)), fun l hl => fin_lst p rl z2 zz l hl⟩
/-! ## isinstance with a built-in class -/
def tyN : D → Option String
  | .non => some "NoneType"
  | .bl _ => some "bool"
  | .int _ => some "int"
  | .str _ => some "str"
  | .lst _ => some "list"
  | .tup _ => some "tuple"
  | _ => none
def isiT (T : String) (d : D) : Option D := (tyN d).bind fun t => (kitB t T).map .bl
theorem tyN_of {HP H : Hp} {v : V} {d : D} {t : String} (sm : Same HP H) (dv : Dv X.K HP v d) (e : tyN d = some t) : TyX X.K H v (.type t) := by
  cases dv <;> simp only [tyN, Option.some.injEq, reduceCtorEq] at e <;> try subst e
  · exact .base .non
  · exact .base (.bl _)
  · exact .base (.int _)
  · exact .base (.str _)
  · rename_i h _ _; exact .base (.lst (sm _ _ h))
  · rename_i h _ _; exact .base (.tup (sm _ _ h))
theorem de_isi (T : String) {y : Str} {py : Pos} (hm : X.mg "isinstance" = none) (hmy : X.mg y = none) (hvy : bootBuiltins y = some (.type T)) (ha : DE X W a fa) (hg : Gl X "isinstance" := by rfl) (hgy : Gl X y := by rfl) (hny : y ≠ "__name__" := by decide) (hdy : (y == ("__debug__" : Str)) = false := by decide)
    (hv : bootBuiltins "isinstance" = some (.builtin "isinstance") := by decide +kernel)
    (he : starEach [a, .Name y py] X.env = (false, eval a X.env) :: starEach [.Name y py] X.env := by rfl) (he2 : starEach [.Name y py] X.env = (false, eval (.Name y py) X.env) :: starEach [] X.env := by rfl)
    (hpl : (backTo pos (starEach [.Name y py] X.env)).any (·.1) = false := by rfl) : DE X W (.Call (.Name "isinstance" p) [a, .Name y py] [] pos) (fun s => (fa s).bind fun d s => lift (isiT T d) s) := by
  refine pe_imp (pe_callB call_isi hg hm hv (pa_cons ha (pa_cons (pe_bltn (v := .ty T) hgy hmy hvy rfl hny hdy) pa_nil he2) he) (by decide) (by decide) he hpl) fun σ H Q h => ?_
  obtain ⟨va, s, HP, rl, h⟩ := h
  refine bindEE rl h fun d s1 v H1 HP1 st1 d1 h1 => ?_
  unfold isiT at h1
  cases q : tyN d with
  | none => rw [q] at h1; exact h1.elim
  | some t =>
    rw [q] at h1
    simp only [Option.bind_some] at h1
    cases q2 : kitB t T with
    | none => rw [q2] at h1; exact h1.elim
    | some r =>
      rw [q2] at h1
      exact ⟨v, .ty T, .type t, .type T, r, rfl, .ty T, tyN_of st1.rel.sub d1 q, kit_ty q2, fin_bl h1 st1.rel⟩
end
end DL

namespace DL
open PySem PySem.Spec PyProof.Rows L2
/-! ## comprehensions -/
theorem wipe_in {σ : St} {i : Nat} : ∀ {vs : List Nat}, i ∈ vs → (wipe σ vs)[i]? = if i < σ.length then some none else none
  | [], h => by cases h
  | v :: vs, h => by
    unfold wipe
    by_cases e : v = i
    · subst e
      rw [List.getElem?_set_self', wipe_length_get]
    · have h2 : i ∈ vs := by
        rcases List.mem_cons.mp h with q | q
        · exact absurd q.symm e
        · exact q
      rw [List.getElem?_set_ne e]
      exact wipe_in h2
where
  wipe_length_get {σ : St} {vs : List Nat} {v : Nat} : (Function.const (Option V) (none : Option V) <$> (wipe σ vs)[v]?) = if v < σ.length then some none else none := by
    by_cases h : v < σ.length
    · rw [List.getElem?_eq_getElem (by rw [wipe_length]; exact h), if_pos h]; rfl
    · rw [List.getElem?_eq_none_iff.mpr (by rw [wipe_length]; omega), if_neg h]; rfl
theorem wipe_set {σ : St} {i : Nat} {x : Option V} {vs : List Nat} (h : i ∈ vs) : wipe (σ.set i x) vs = wipe σ vs := by
  refine List.ext_getElem? fun j => ?_
  by_cases hj : j ∈ vs
  · rw [wipe_in hj, wipe_in hj, List.length_set]
  · have hne : i ≠ j := fun e => hj (e ▸ h)
    rw [wipe_out hj, wipe_out hj, List.getElem?_set_ne hne]
theorem wipe_wipe {σ : St} {vs : List Nat} : wipe (wipe σ vs) vs = wipe σ vs := by
  refine List.ext_getElem? fun j => ?_
  by_cases hj : j ∈ vs
  · rw [wipe_in hj, wipe_in hj, wipe_length]
  · rw [wipe_out hj]
theorem wipe_same {σ σ' : St} {vs : List Nat} (h : wipe σ vs = wipe σ' vs) {j : Nat} (hj : j ∉ vs) : σ[j]? = σ'[j]? := by
  rw [← wipe_out (σ := σ) hj, h, wipe_out hj]
theorem wipe_len {σ σ' : St} {vs : List Nat} (h : wipe σ vs = wipe σ' vs) : σ.length = σ'.length := by
  have := congrArg List.length h
  rwa [wipe_length, wipe_length] at this
def wipeL (l : List (Option Sl)) : List Nat → List (Option Sl)
  | [] => l
  | v :: vs => (wipeL l vs).set v none
def S.wipe (vs : List Nat) (s : S) : S := ⟨wipeL s.sl vs, s.via⟩
theorem wipeL_length (l : List (Option Sl)) : ∀ vs : List Nat, (wipeL l vs).length = l.length
  | [] => rfl
  | v :: vs => by unfold wipeL; rw [List.length_set, wipeL_length l vs]
theorem wipeL_some {l : List (Option Sl)} {i : Nat} {x : Sl} : ∀ {vs : List Nat}, (wipeL l vs)[i]? = some (some x) → l[i]? = some (some x) ∧ i ∉ vs
  | [], h => ⟨h, by simp⟩
  | v :: vs, h => by
    unfold wipeL at h
    by_cases e : v = i
    · subst e
      rw [List.getElem?_set_self'] at h
      cases q : (wipeL l vs)[v]? <;> rw [q] at h <;> simp at h
    · rw [List.getElem?_set_ne e] at h
      obtain ⟨h1, h2⟩ := wipeL_some h
      exact ⟨h1, fun m => by
        rcases List.mem_cons.mp m with q | q
        · exact e q.symm
        · exact h2 q⟩
section
variable {K : PySem.W.Frag} {va : VA} {s s' : S} {σ σ' : St} {HP H HP' H' : Hp} {vs : List Nat}
/-- the slots vs are empty -/
def Clean (vs : List Nat) (s : S) : Prop := ∀ (i : Nat) x, s.sl[i]? = some (some x) → i ∉ vs
theorem clean_wipe : Clean vs (s.wipe vs) := fun _ _ q => (wipeL_some q).2
/-- other slots may hold anything where the state tells nothing -/
theorem Rel.to (r : Rel K va s σ HP H) (c : Clean vs s) (e : wipe σ vs = wipe σ' vs) : Rel K va s σ' HP H := by
  have w : ∀ (i : Nat) x, s.sl[i]? = some (some x) → σ[i]? = σ'[i]? := fun i x q => wipe_same e (c i x q)
  refine ⟨r.len.trans (wipe_len e), r.sub, fun i d q => ?_, fun i xs q => ?_, fun i q => ?_, r.vst, fun i j xs ys a n q1 q2 q3 => ?_, fun i xs q n => ?_, r.tab, (r.ob.step (Same.refl _) (fun b dx fs e n => ⟨e, n⟩) fun i n p q => ⟨q, (w i _ q).symm⟩ : Obk K va s σ HP H s σ' HP H).ob⟩
  · rw [← w i _ q]; exact r.val i d q
  · rw [← w i _ q]; exact r.own i xs q
  · rw [← w i _ q]; exact r.vis i q
  · rw [← w i _ q1] at q3; rw [← w j _ q2]; exact r.dis i j xs ys a n q1 q2 q3
  · rw [← w i _ q]; exact r.dvi i xs q n
theorem owns_to (c : Clean vs s) (e : wipe σ vs = wipe σ' vs) {b : Addr} (o : Owns va s σ b) : Owns va s σ' b := by
  rcases o with ⟨i, xs, q1, q2⟩ | o
  · exact .inl ⟨i, xs, q1, by rw [← wipe_same e (c i _ q1)]; exact q2⟩
  · exact .inr o
theorem obk_wiped (r : Obs K va s σ HP H) : Obk K va s σ HP H (s.wipe vs) σ HP H := r.step (Same.refl _) (fun b dx fs e n => ⟨e, n⟩) fun i n p q => ⟨(wipeL_some q).1, rfl⟩
theorem ownB_wiped {b : Addr} (o : OwnB (s.wipe vs) σ b) : OwnB s σ b := let ⟨i, n, p, q1, q2⟩ := o; ⟨i, n, p, (wipeL_some q1).1, q2⟩
theorem ownB_to (c : Clean vs s) (e : wipe σ vs = wipe σ' vs) {b : Addr} (o : OwnB s σ b) : OwnB s σ' b := let ⟨i, n, p, q1, q2⟩ := o; ⟨i, n, p, q1, by rw [← wipe_same e (c i _ q1)]; exact q2⟩
theorem Rel.wiped (r : Rel K va s σ HP H) : Rel K va (s.wipe vs) σ HP H := by
  refine ⟨(wipeL_length _ _).trans r.len, r.sub, fun i d q => r.val i d (wipeL_some q).1, fun i xs q => r.own i xs (wipeL_some q).1, fun i q => r.vis i (wipeL_some q).1, r.vst, fun i j xs ys a n q1 q2 => r.dis i j xs ys a n (wipeL_some q1).1 (wipeL_some q2).1, fun i xs q => r.dvi i xs (wipeL_some q).1, r.tab, (obk_wiped r.ob).ob⟩
theorem owns_wiped {b : Addr} (o : Owns va (s.wipe vs) σ b) : Owns va s σ b := by
  rcases o with ⟨i, xs, q1, q2⟩ | o
  · exact .inl ⟨i, xs, (wipeL_some q1).1, q2⟩
  · exact .inr o
theorem Rel.wst (r : Rel K va s σ HP H) : Stp K va s σ HP H (s.wipe vs) σ HP H := ⟨r.wiped, Same.refl _, fun b o h _ n => ⟨h, fun z => n (owns_wiped z), fun z => z⟩, Iff.rfl, (obk_wiped r.ob).kob⟩
/-- a turn within the block, seen from without -/
theorem Stp.out {σ2 : St} (a : Stp K va s (L2.wipe σ vs) HP H s' σ2 HP' H') (c : Clean vs s) (e : L2.wipe σ2 vs = L2.wipe σ vs) : Stp K va s σ HP H (s'.wipe vs) σ HP' H' := by
  have e2 : L2.wipe (L2.wipe σ vs) vs = L2.wipe σ vs := wipe_wipe
  refine ⟨a.rel.wiped.to clean_wipe e, a.same, fun b o h nt n => ?_, a.via, fun b dx fs h n o => ?_⟩
  rotate_left
  · obtain ⟨h1, h2, h3⟩ := a.kob b dx fs h n fun z => o (ownB_to c e2 z)
    exact ⟨h1, h2, fun z => h3 (ownB_wiped (ownB_to clean_wipe e.symm z))⟩
  obtain ⟨h1, h2, h3⟩ := a.keep b o h nt fun z => n (owns_to c e2 z)
  exact ⟨h1, fun z => h2 (owns_wiped (owns_to clean_wipe e.symm z)), h3⟩
/-- the heap without the list that is being made -/
def del (H : Hp) (a : Addr) : Hp := fun b => if b = a then none else H b
theorem del_ne {a b : Addr} (h : b ≠ a) : del H a b = H b := by unfold del; rw [if_neg h]
theorem del_same {a : Addr} : del H a a = none := by unfold del; rw [if_pos rfl]
theorem del_some {a b : Addr} {o : HO} (h : del H a b = some o) : b ≠ a ∧ H b = some o := by
  by_cases e : b = a
  · subst e; rw [del_same] at h; cases h
  · rw [del_ne e] at h; exact ⟨e, h⟩
theorem del_upd {a : Addr} {o : HO} (h : H a = none) : del (upd H a o) a = H := by
  funext b
  by_cases e : b = a
  · subst e; rw [del_same, h]
  · rw [del_ne e, upd_ne e]
theorem upd_del {a : Addr} {o : HO} (h : H a = some o) : upd (del H a) a o = H := by
  funext b
  by_cases e : b = a
  · subst e; rw [upd_same, h]
  · rw [upd_ne e, del_ne e]
theorem del_upd' {a : Addr} {o : HO} : del (upd H a o) a = del H a := by
  funext b
  by_cases e : b = a
  · subst e; rw [del_same, del_same]
  · rw [del_ne e, del_ne e, upd_ne e]
theorem Rel.more {a : Addr} (r : Rel K va s σ HP (del H a)) : Rel K va s σ HP H :=
  ⟨r.len, fun b o q => (del_some (r.sub b o q)).2, r.val, fun i xs q => by
    obtain ⟨b, vs, h1, h2, h3, h4⟩ := r.own i xs q
    exact ⟨b, vs, h1, h2, (del_some h3).2, h4⟩, r.vis, fun xs q => by
    obtain ⟨h1, vs, h2, h3⟩ := r.vst xs q
    exact ⟨h1, vs, (del_some h2).2, h3⟩, r.dis, r.dvi, ⟨r.tab.t.ext fun b o q => (del_some q).2, r.tab.n⟩, ⟨fun i n p q => (let ⟨a', h1, h2, dx, v1, v2, h3, d1, d2⟩ := r.ob.at_ i n p q; ⟨a', h1, h2, dx, v1, v2, (del_some h3).2, d1, d2⟩), r.ob.dis, r.ob.pin⟩⟩
theorem Rel.nown {a : Addr} (r : Rel K va s σ HP (del H a)) : ¬ Owns va s σ a := fun z => by
  rcases z with ⟨i, xs, q1, q2⟩ | ⟨n, e⟩
  · obtain ⟨b, vs, h1, h2, h3, h4⟩ := r.own i xs q1
    rw [q2] at h1
    injection h1 with h1; injection h1 with h1; injection h1 with h1
    exact (del_some h3).1 h1.symm
  · cases hv : s.via with
    | none => exact n hv
    | some xs =>
      obtain ⟨h1, vs, h2, h3⟩ := r.vst xs hv
      exact (del_some h2).1 e.symm
theorem tab_del {T : List (Addr × Str)} {a : Addr} {vs : List V} (t : LamX.Tabs T H) (h : H a = some (.lst vs)) : LamX.Tabs T (del H a) := fun p hp => by
  obtain ⟨ps, h1, h2, h3⟩ := t p hp
  have n1 : p.1 ≠ a := fun z => by rw [z, h] at h1; cases h1
  refine ⟨ps, by rw [del_ne n1]; exact h1, h2, fun pos cv hc => ?_⟩
  obtain ⟨c, e1, e2⟩ := h3 pos cv hc
  have n2 : c ≠ a := fun z => by
    rw [z, h] at e2
    unfold LamX.CodeO at e2
    cases e2
  exact ⟨c, e1, by rw [del_ne n2]; exact e2⟩
theorem Rel.less {a : Addr} {us : List V} (r : Rel K va s σ HP H) (n : ¬ Owns va s σ a) (nP : HP a = none) (hA : H a = some (.lst us)) : Rel K va s σ HP (del H a) :=
  ⟨r.len, fun b o q => by rw [del_ne (ne_of_none q nP)]; exact r.sub b o q, r.val, fun i xs q => by
    obtain ⟨b, vs, h1, h2, h3, h4⟩ := r.own i xs q
    have ne : b ≠ a := fun z => n (.inl ⟨i, xs, q, by rw [← z]; exact h1⟩)
    exact ⟨b, vs, h1, h2, by rw [del_ne ne]; exact h3, h4⟩, r.vis, fun xs q => by
    obtain ⟨h1, vs, h2, h3⟩ := r.vst xs q
    have ne : va.a ≠ a := fun z => n (.inr ⟨by rw [q]; simp, z.symm⟩)
    exact ⟨h1, vs, by rw [del_ne ne]; exact h2, h3⟩, r.dis, r.dvi, ⟨tab_del r.tab.t hA, r.tab.n⟩, ⟨fun i n p q => (let ⟨a', h1, h2, dx, v1, v2, h3, d1, d2⟩ := r.ob.at_ i n p q; ⟨a', h1, h2, dx, v1, v2, (by rw [del_ne (fun z => by rw [z, hA] at h3; cases h3)]; exact h3), d1, d2⟩), r.ob.dis, r.ob.pin⟩⟩
theorem Stp.del {a : Addr} {us : List V} (t : Stp K va s σ HP H s' σ' HP' H') (n : ¬ Owns va s σ a) (nP : HP a = none) (ha : H a = some (.lst us)) :
    H' a = some (.lst us) ∧ HP' a = none ∧ Stp K va s σ HP (del H a) s' σ' HP' (del H' a) := by
  obtain ⟨h1, h2, h3⟩ := t.keep a _ ha nL n
  refine ⟨h1, h3 nP, t.rel.less h2 (h3 nP) h1, t.same, fun b x q nt nb => ?_, t.via, fun b dx fs q z o => ?_⟩
  rotate_left
  · obtain ⟨ne, q'⟩ := del_some q
    obtain ⟨y1, y2, y3⟩ := t.kob b dx fs q' z o
    exact ⟨by rw [del_ne ne]; exact y1, y2, y3⟩
  obtain ⟨ne, q'⟩ := del_some q
  obtain ⟨y1, y2, y3⟩ := t.keep b x q' nt nb
  exact ⟨by rw [del_ne ne]; exact y1, y2, y3⟩
end
/-! targets within a block -/
section
variable {X : Cx} {W : WX} {a b c e : Expr} {es : List Expr} {pos : Pos} {vs : List Nat}
def tDGw (X : Cx) (vs : List Nat) (g : D → S → Option S) : TG := fun v σ H Q => ∃ va s HP d s', Rel X.K va s σ HP H ∧ Dv X.K HP v d ∧ g d s = some s' ∧ ∀ σ', Stp X.K va s σ HP H s' σ' HP H → wipe σ' vs = wipe σ vs → Q σ' H
def DGw (X : Cx) (vs : List Nat) (tg : Expr) (g : D → S → Option S) : Prop := PG X tg (tDGw X vs g)
def tDGsw (X : Cx) (vs : List Nat) (g : List D → S → Option S) : TGs := fun us σ H Q => ∃ va s HP ds s', Rel X.K va s σ HP H ∧ DvA X.K HP us ds ∧ g ds s = some s' ∧ ∀ σ', Stp X.K va s σ HP H s' σ' HP H → wipe σ' vs = wipe σ vs → Q σ' H
def DGsw (X : Cx) (vs : List Nat) (ts : List Expr) (g : List D → S → Option S) : Prop := PGs X ts (tDGsw X vs g)
theorem dgw_v (i : Nat) {x : Str} (hN : X.N.Nodup) (hi : X.N[i]? = some x := by rfl) (hx : Loc X.env.scope x := by first | exact Or.inl rfl | exact Or.inr rfl)
    (hf : X.fn x = true ∨ X.env.scope.names.lookup x = some .local := by first | exact .inl rfl | exact .inr rfl | assumption) (hv : i ∈ vs := by decide) : DGw X vs (.Name x pos) (fun d s => some (s.put i (.val d))) := by
  refine pg_imp (pg_name hN hi hx hf) fun v σ H Q ⟨va, s, HP, d, s', rl, dv, e, k⟩ => ?_
  cases e
  exact k _ (rl.put i dv) (wipe_set hv)
theorem dgsw_nil : DGsw X vs [] (fun ds s => match ds with | [] => some s | _ => none) := by
  refine pgs_imp pgs_nil fun v σ H Q ⟨va, s, HP, d, s', rl, dv, e, k⟩ => ?_
  cases d with
  | nil => cases dv; cases e; exact ⟨rfl, k σ (Stp.refl rl) rfl⟩
  | cons _ _ => cases e
theorem dgsw_cons {g : D → S → Option S} {gs : List D → S → Option S} (h1 : DGw X vs e g) (h2 : DGsw X vs es gs) (hs : (assignEach (e :: es) X.env).map (·.2) = assign e X.env :: (assignEach es X.env).map (·.2) := by rfl) :
    DGsw X vs (e :: es) (fun ds s => match ds with | d :: r => (g d s).bind (gs r) | _ => none) := by
  refine pgs_imp (pgs_cons h1 h2 hs) fun v σ H Q ⟨va, s, HP, ds, s', rl, dv, eq, k⟩ => ?_
  cases ds with
  | nil => cases eq
  | cons d r =>
    cases dv with
    | @cons v us _ _ h1 h2 =>
      refine ⟨v, us, rfl, ?_⟩
      have eq' : (g d s).bind (gs r) = some s' := eq
      cases q : g d s with
      | none => rw [q] at eq'; cases eq'
      | some s1 =>
        rw [q] at eq'
        exact ⟨va, s, HP, d, s1, rl, h1, q, fun σ1 st1 w1 => ⟨va, s1, HP, r, s', st1.rel, h2, eq', fun σ2 st2 w2 => k σ2 (st1.trans st2) (w2.trans w1)⟩⟩
theorem dgw_tup {k n : Nat} {gs : List D → S → Option S} (hc : X.calm = true) (h : DGsw X vs es gs) (hn : (assignEach es X.env).length = n := by rfl) (hst : (assignEach es X.env).findIdx? (·.1) = none := by rfl) : DGw X vs (.Tuple es k pos) (unT n gs) := by
  refine pg_imp (pg_tup hc h hn hst) fun v σ H Q ⟨va, s, HP, d, s', rl, dv, eq, k⟩ => ?_
  unfold unT at eq
  split at eq
  · split at eq
    · cases dv with
      | @tup a us ds h1 hz h2 => exact ⟨a, us, rfl, SqT.of (rl.sub _ _ h1), by rw [h2.length]; assumption, va, s, HP, _, s', rl, h2, eq, k⟩
    · cases eq
  · cases eq
end
def compL (vs : List Nat) (g : D → S → Option S) (t : S → R Bool) (f : S → R D) : List D → List D → S → R (List D)
  | [], acc, s => .ok acc s
  | d :: ds, acc, s => match g d s with
    | none => .stuck
    | some s1 => match t s1 with
      | .ok k s2 => if k = true then (match f s2 with
        | .ok y s3 => compL vs g t f ds (acc ++ [y]) (s3.wipe vs)
        | _ => .stuck) else compL vs g t f ds acc (s2.wipe vs)
      | _ => .stuck
def WF : WX := fun _ _ _ _ => False
theorem wf_takes {X : Cx} : Takes X WF := fun _ _ x => by
  obtain ⟨_, _, _, _, _, _, _, _, _, _, _, _, _, _, _, _, z⟩ := x
  exact z.elim
def DTs (X : Cx) (W : WX) (ifs : List Expr) (f : S → R Bool) : Prop := PTs X ifs (tDT X W f)
section
variable {X : Cx} {W : WX} {a b c e elt tg iter : Expr} {ifs : List Expr} {pos : Pos} {fi : S → R (List D)} {g : D → S → Option S} {t : S → R Bool} {f : S → R D} {scope : Scope} {own : List (Str × Nat)}
theorem dts_nil : DTs X W [] (fun s => .ok true s) := ⟨fun pins s σ H Q I h => by
  obtain ⟨va, st, HP, rl, h⟩ := h
  exact pts_nil.run pins s σ H Q I (h.fin rl)⟩
theorem dts_one (h : DT X W c t) : DTs X W [c] t := pts_one h
/-- the reading of a comprehension -/
theorem lc_read {vs : List Nat} {XB : Cx} (hK : XB.K = X.K) (hM : XB.mg = X.mg) {σ : St} {H : Hp} {Q : VK} (h : tDE X W (fun s => (fi s).bind fun ds s => (compL vs g t f ds [] (s.wipe vs)).bind fun ys s => .ok (.lst ys) s) σ H Q) :
    tLc (tDI X W fi) (tDGw XB vs g) (tDT XB WF t) (tDE XB WF f) vs σ H Q := by
  obtain ⟨va, s, HP, rl, h⟩ := h
  dsimp only at h
  refine ⟨va, s, HP, rl, ?_⟩
  cases ei : fi s with
  | stuck => rw [ei] at h; exact h
  | exc n p s' => rw [ei] at h; exact h
  | ok ds s1 =>
    rw [ei] at h
    intro J H1 HP1 st1 hz hw D0 nD
    have h1 : PoE X W va (s1.wipe vs) σ HP1 H1 ((compL vs g t f ds [] (s1.wipe vs)).bind fun ys s => .ok (.lst ys) s) Q := PoE.from (st1.trans st1.rel.wst) h
    refine ⟨fun i m H => ∃ s HP acc ys, m = ds.length - i ∧ i ≤ ds.length ∧ H D0 = some (.lst acc) ∧ ys.length ≤ i ∧ HP D0 = none ∧ Rel X.K va s σ HP (del H D0) ∧ Same HP1 HP ∧ Clean vs s ∧ DvA X.K HP acc ys ∧
      PoE X W va s σ HP (del H D0) ((compL vs g t f (ds.drop i) ys s).bind fun ys s => .ok (.lst ys) s) Q,
      ⟨ds.length, s1.wipe vs, HP1, [], [], by simp, Nat.zero_le _, upd_same, Nat.le_refl _, st1.rel.sub.free nD, by rw [del_upd nD]; exact st1.rel.wiped, Same.refl _, clean_wipe, .nil, by rw [del_upd nD]; exact h1⟩, ?_⟩
    rintro i m H2 ⟨s2, HP2, acc, ys, rfl, hle, hD, hy, nP, r2, sm, cl, dv, p2⟩
    have r2' := r2.more
    have no := r2.nown
    obtain ⟨w1, w2⟩ := hw i HP2 H2 sm r2'.sub
    by_cases hlt : i < ds.length
    · have hd : ds[i]? = some ds[i] := List.getElem?_eq_getElem hlt
      obtain ⟨hgo, hyl⟩ := w1 _ hd
      rw [List.drop_eq_getElem_cons hlt] at p2
      unfold compL at p2
      refine .inr ⟨hgo, fun H' => ∃ s HP acc ys, H' D0 = some (.lst acc) ∧ ys.length ≤ i + 1 ∧ HP D0 = none ∧ Rel X.K va s σ HP (del H' D0) ∧ Same HP1 HP ∧ Clean vs s ∧ DvA X.K HP acc ys ∧
        PoE X W va s σ HP (del H' D0) ((compL vs g t f (ds.drop (i + 1)) ys s).bind fun ys s => .ok (.lst ys) s) Q,
        fun H' ⟨s', HP', acc', ys', q⟩ => ⟨ds.length - (i + 1), by omega, s', HP', acc', ys', rfl, hlt, q⟩, fun x H' y => ?_⟩
      obtain ⟨HP', dx, stp⟩ := hyl x H' y
      have rw' : Rel X.K va s2 (wipe σ vs) HP2 H2 := r2'.to cl wipe_wipe.symm
      have st3 := stp va s2 (wipe σ vs) rw'
      cases eg : g ds[i] s2 with
      | none => rw [eg] at p2; exact p2.elim
      | some s4 =>
        rw [eg] at p2
        dsimp only at p2
        refine ⟨va, s2, HP', _, s4, by rw [hK]; exact st3.rel, by rw [hK]; exact dx, eg, fun σ4 st4 hw4 => ⟨hw4.trans wipe_wipe, ?_⟩⟩
        rw [hK] at st4
        have e4 : wipe σ4 vs = wipe σ vs := hw4.trans wipe_wipe
        have st34 := st3.trans st4
        refine ⟨va, s4, HP', by rw [hK]; exact st4.rel, ?_⟩
        cases et : t s4 with
        | stuck => rw [et] at p2; exact p2
        | exc n p s' => rw [et] at p2; exact p2.elim
        | ok k s5 =>
          rw [et] at p2
          dsimp only at p2
          intro H5 HP5 st5
          rw [hK] at st5
          have st35 := st34.trans st5
          cases k with
          | false =>
            rw [if_neg Bool.false_ne_true] at p2 ⊢
            have so := st35.out cl e4
            obtain ⟨y1, y2, y3⟩ := so.del no nP hD
            exact ⟨s5.wipe vs, HP5, acc, ys, y1, by omega, y2, y3.rel, sm.trans so.same, clean_wipe, DvA.mono so.same ys acc dv, PoE.from y3 p2⟩
          | true =>
            rw [if_pos rfl] at p2 ⊢
            refine ⟨va, s5, HP5, by rw [hK]; exact st5.rel, ?_⟩
            cases ef : f s5 with
            | stuck => rw [ef] at p2; exact p2
            | exc n p s' => rw [ef] at p2; exact p2.elim
            | ok d s6 =>
              rw [ef] at p2
              dsimp only at p2
              intro v6 H6 HP6 st6 dv6
              rw [hK] at st6 dv6
              have so := (st35.trans st6).out cl e4
              obtain ⟨y1, y2, y3⟩ := so.del no nP hD
              have dacc := DvA.mono so.same ys acc dv
              refine ⟨acc, y1, by rw [dacc.length]; omega, s6.wipe vs, HP6, acc ++ [v6], ys ++ [d], upd_same, by rw [List.length_append, List.length_singleton]; omega, y2, by rw [del_upd']; exact y3.rel, sm.trans so.same, clean_wipe, dacc.append (.cons dv6 .nil), by rw [del_upd']; exact PoE.from y3 p2⟩
    · have e : ds.drop i = [] := List.drop_eq_nil_of_le (by omega)
      rw [e] at p2
      refine .inl ⟨w2 (by omega), ?_⟩
      have q := fin_lst (p2 : PoE X W va s2 σ HP2 (del H2 D0) (.ok (.lst ys) s2) Q) r2 dv (by omega) D0 del_same
      rw [upd_del hD] at q
      exact q
theorem de_lc (vs : List Nat) (hc : X.calm = true) (hN : X.N.Nodup) (hi : DI X W tg iter fi) (ok : BlkOk X.N X.env.scope scope own)
    (hg : ∀ (s : Shared) (H : Hp) (C : Addr) (cl : List (Str × Addr)) (fp : List Addr), DGw (X.blk s H scope (compEnvC scope cl C X.env) fp) vs tg g) (ht : ∀ (s : Shared) (H : Hp) (C : Addr) (cl : List (Str × Addr)) (fp : List Addr), DTs (X.blk s H scope (compEnvC scope cl C X.env) fp) WF ifs t)
    (he : ∀ (s : Shared) (H : Hp) (C : Addr) (cl : List (Str × Addr)) (fp : List Addr), DE (X.blk s H scope (compEnvC scope cl C X.env) fp) WF elt f) (hs : ∀ x, foldedSetIterable iter X.env x = pure x := by intro _; rfl) (hv : own.map (·.2) = vs := by rfl) :
    DE X W (.ListComp elt [⟨tg, iter, ifs, 0⟩] scope pos) (fun s => (fi s).bind fun ds s => (compL vs g t f ds [] (s.wipe vs)).bind fun ys s => .ok (.lst ys) s) := by
  subst hv
  exact pe_imp (pe_lc (g := tDGw X (own.map fun q : Str × Nat => q.2) g) (tt := tDT X WF t) (te := tDE X WF f) hc hN hi ok hg ht he hs) fun σ H Q h => lc_read (XB := X) rfl rfl h
/-- y = [..] -/
theorem ds_setlc (vs : List Nat) (i : Nat) {y : Str} {py spos : Pos} (hc : X.calm = true) (hN : X.N.Nodup) (hi : DI X W tg iter fi) (ok : BlkOk X.N X.env.scope scope own)
    (hg : ∀ (s : Shared) (H : Hp) (C : Addr) (cl : List (Str × Addr)) (fp : List Addr), DGw (X.blk s H scope (compEnvC scope cl C X.env) fp) vs tg g) (ht : ∀ (s : Shared) (H : Hp) (C : Addr) (cl : List (Str × Addr)) (fp : List Addr), DTs (X.blk s H scope (compEnvC scope cl C X.env) fp) WF ifs t)
    (he : ∀ (s : Shared) (H : Hp) (C : Addr) (cl : List (Str × Addr)) (fp : List Addr), DE (X.blk s H scope (compEnvC scope cl C X.env) fp) WF elt f)
    (hsw : swapsWith (.ListComp elt [⟨tg, iter, ifs, 0⟩] scope pos) (some (.Name y py)) spos.line X.env = pure true) (hy : X.N[i]? = some y := by rfl) (hyl : X.env.scope.names.lookup y = some .local := by rfl)
    (hs : ∀ x, foldedSetIterable iter X.env x = pure x := by intro _; rfl) (hv : own.map (·.2) = vs := by rfl) :
    DS X W (.Assign [.Name y py] (.ListComp elt [⟨tg, iter, ifs, 0⟩] scope pos) spos) (fun s => ((fi s).bind fun ds s => (compL vs g t f ds [] (s.wipe vs)).bind fun ys s => .ok (.lst ys) s).thn fun d s => .next (s.put i (.val d))) := by
  subst hv
  refine ps_imp (ps_setLc (g := tDGw X (own.map fun q : Str × Nat => q.2) g) (tt := tDT X WF t) (te := tDE X WF f) hc hN hy hyl hsw hi ok hg ht he hs) fun D σ H h => ?_
  obtain ⟨va, s, HP, rl, h⟩ := h
  exact lc_read (X := X) (XB := X) rfl rfl (bindES rl h fun d s1 v H1 HP1 st1 d1 h1 => h1 _ H1 HP1 (st1.rel.put i d1))
end
end DL

namespace DL
open PySem PySem.Spec PyProof.Rows L2
/-! ## what stands behind the top -/
/-- the def x of the text keeps m -/
def Has (P : Program) (w : World) (K : PySem.W.Frag) (mg : Str → Option Value) (base : Heap) (k : Nat) (x : Str) (ps : List Str) (m : FM) : Prop :=
  ∃ f fd, FnD P w K mg base k f fd ps m ∧ mg x = some (.ref f) ∧ PySem.W.keepIn K (.ref f) = true ∧ Binds K fd ps []
theorem Has.re {P : Program} {w : World} {K : PySem.W.Frag} {mg : Str → Option Value} {base : Heap} {k : Nat} {x : Str} {ps : List Str} {m m' : FM} (G : Has P w K mg base k x ps m) (h : ∀ ds v, m' ds v ≠ .stuck → m ds v = m' ds v) : Has P w K mg base k x ps m' := by
  obtain ⟨f, fd, g, r⟩ := G
  exact ⟨f, fd, g.re h, r⟩
theorem Has.frz {P : Program} {w : World} {K : PySem.W.Frag} {mg : Str → Option Value} {base : Heap} {k : Nat} {x : Str} {ps : List Str} {m : FM} (G : Has P w K mg base k x ps m) : Has P w K mg base k x ps (fun ds v => (m ds v).frz) := by
  obtain ⟨f, fd, g, r⟩ := G
  exact ⟨f, fd, g.frz, r⟩
theorem Has.up {P : Program} {w : World} {K : PySem.W.Frag} {mg : Str → Option Value} {base : Heap} {k j : Nat} {x : Str} {ps : List Str} {m : FM} (G : Has P w K mg base k x ps m) (h : k ≤ j) : Has P w K mg base j x ps m := by
  obtain ⟨f, fd, g, r⟩ := G
  exact ⟨f, fd, g.mono h, r⟩
/-- how the def x stands there -/
structure Stand (K : PySem.W.Frag) (mg : Str → Option Value) (x : Str) (st : Stmt) (ps : List Str) (f : Addr) (fd : FuncData) : Prop where
  F : Fun K x x st f fd
  g : mg x = some (.ref f)
  b : Binds K fd ps []
def There (K : PySem.W.Frag) (mg : Str → Option Value) (x : Str) (st : Stmt) (ps : List Str) : Prop := ∃ f fd, Stand K mg x st ps f fd
section
variable {P : Program} {w : World} {K : PySem.W.Frag} {mg : Str → Option Value} {base : Heap}
theorem tkX {N : List Str} {q : Str} {sc : Scope} {f : Addr} {cdv : Value} {A : Around} {outer : List Env} {s : Shared} {H : Hp} {E : XK} : Takes (cxOf (L2.CX P w) P w K mg base N q sc f cdv A outer s H E) (fun cls d _ H => E cls d H) := takes_of rfl rfl rfl rfl
theorem hpX {N : List Str} {q : Str} {sc : Scope} {f : Addr} {cdv : Value} {A : Around} {outer : List Env} {s : Shared} {H : Hp} {E : XK} : PassesOwn (model (cxOf (L2.CX P w) P w K mg base N q sc f cdv A outer s H E).prog (cxOf (L2.CX P w) P w K mg base N q sc f cdv A outer s H E).w) (cxOf (L2.CX P w) P w K mg base N q sc f cdv A outer s H E).A (cxOf (L2.CX P w) P w K mg base N q sc f cdv A outer s H E).env (cxOf (L2.CX P w) P w K mg base N q sc f cdv A outer s H E).xe := passes_of rfl
theorem has_of {x : Str} {st : Stmt} {N ps : List Str} {k : Nat} {m : FM} (T : There K mg x st ps) (Sc : FnScope N ps (defScope st))
    (body : ∀ (f : Addr) (cdv : Value) (A : Around) (outer : List Env) (s : Shared) (H : Hp) (E : XK), Room k (A.deeper (envOfC x (defScope st) s.heap.objs.size f cdv)) → Takes (cxOf (L2.CX P w) P w K mg base N x (defScope st) f cdv A outer s H E) (fun cls d _ H => E cls d H) → PassesOwn (model (cxOf (L2.CX P w) P w K mg base N x (defScope st) f cdv A outer s H E).prog (cxOf (L2.CX P w) P w K mg base N x (defScope st) f cdv A outer s H E).w) (cxOf (L2.CX P w) P w K mg base N x (defScope st) f cdv A outer s H E).A (cxOf (L2.CX P w) P w K mg base N x (defScope st) f cdv A outer s H E).env (cxOf (L2.CX P w) P w K mg base N x (defScope st) f cdv A outer s H E).xe →
      ∃ f', DSs (cxOf (L2.CX P w) P w K mg base N x (defScope st) f cdv A outer s H E) (fun cls d _ H => E cls d H) (defBody st) f' ∧ ∀ ds v, m ds v ≠ .stuck → (f' (stD N ds v)).fin = m ds v) :
    Has P w K mg base (k + 1) x ps m := by
  obtain ⟨f, fd, S⟩ := T
  exact ⟨f, fd, fn_d S.F Sc fun cdv A outer s H E hr => body f cdv A outer s H E hr tkX hpX, S.g, S.F.kp, S.b⟩
/-- what its body is worth, as the rules tell it -/
theorem has_any {x : Str} {st : Stmt} {N ps : List Str} {k : Nat} {f' : S → T} (T : There K mg x st ps) (Sc : FnScope N ps (defScope st))
    (body : ∀ (f : Addr) (cdv : Value) (A : Around) (outer : List Env) (s : Shared) (H : Hp) (E : XK), Room k (A.deeper (envOfC x (defScope st) s.heap.objs.size f cdv)) → Takes (cxOf (L2.CX P w) P w K mg base N x (defScope st) f cdv A outer s H E) (fun cls d _ H => E cls d H) → PassesOwn (model (cxOf (L2.CX P w) P w K mg base N x (defScope st) f cdv A outer s H E).prog (cxOf (L2.CX P w) P w K mg base N x (defScope st) f cdv A outer s H E).w) (cxOf (L2.CX P w) P w K mg base N x (defScope st) f cdv A outer s H E).A (cxOf (L2.CX P w) P w K mg base N x (defScope st) f cdv A outer s H E).env (cxOf (L2.CX P w) P w K mg base N x (defScope st) f cdv A outer s H E).xe →
      DSs (cxOf (L2.CX P w) P w K mg base N x (defScope st) f cdv A outer s H E) (fun cls d _ H => E cls d H) (defBody st) f') :
    Has P w K mg base (k + 1) x ps (fun ds v => (f' (stD N ds v)).fin) :=
  has_of T Sc fun f cdv A outer s H E hr tk hp => ⟨f', body f cdv A outer s H E hr tk hp, fun ds v _ => rfl⟩
end
section
variable {X : Cx} {W : WX} {a b c e : Expr} {es : List Expr} {fa fb fc : S → R D} {ga : S → R (List D)} {pos p : Pos} {k n : Nat} {ps : List Str} {m : FM} {x : Str} {st : Stmt}
theorem dc (G : Has X.prog X.w X.K X.mg X.base k x ps m) (tk : Takes X W) (hr : Room k X.A) (ha : DA X W (e :: es) ga)
    (hg : Gl X x := by rfl) (hdb : (x == ("__debug__" : Str)) = false := by decide) (he : starEach (e :: es) X.env = (false, eval e X.env) :: starEach es X.env := by rfl) (hpl : (backTo pos (starEach es X.env)).any (·.1) = false := by rfl) :
    DE X W (.Call (.Name x p) (e :: es) [] pos) (fun s => (ga s).bind fun ds s => callP m ps.length ds s) := by
  obtain ⟨f, fd, F, hm, hk, hb⟩ := G
  exact de_call F hr tk hm hk hb ha hg hdb he hpl
theorem dcv (i : Nat) {y : Str} {py : Pos} (G : Has X.prog X.w X.K X.mg X.base k x ps m) (tk : Takes X W) (hr : Room k X.A) (ha : DA X W es ga)
    (hN : X.N[i]? = some y := by rfl) (hv : Vis X.env.scope y := by first | exact Or.inl rfl | exact Or.inr (Or.inl rfl) | exact Or.inr (Or.inr rfl)) (hd : (y == ("__debug__" : Str)) = false := by decide) (hcd : (y == ("__classdict__" : Str)) = false := by decide)
    (hg : Gl X x := by rfl) (hdb : (x == ("__debug__" : Str)) = false := by decide) (he : starEach (.Name y py :: es) X.env = (false, eval (.Name y py) X.env) :: starEach es X.env := by rfl) (hpl : (backTo pos (starEach es X.env)).any (·.1) = false := by rfl) :
    DE X W (.Call (.Name x p) (.Name y py :: es) [] pos) (fun s => if (refS i s).isSome = true then (ga s).bind fun ds s => callV i m ps.length ds s else .stuck) := by
  obtain ⟨f, fd, F, hm, hk, hb⟩ := G
  exact de_callv i F hr tk hm hk hb ha hN hv hd hcd hg hdb he hpl
theorem dcO (i : Nat) {y : Str} {py pos' : Pos} (G : Has X.prog X.w X.K X.mg X.base k x ps m) (tk : Takes X W) (hr : Room k X.A) (hN : X.N.Nodup) (ha : DA X W (e :: es) ga)
    (hi : X.N[i]? = some y := by rfl) (hx : Loc X.env.scope y := by first | exact Or.inl rfl | exact Or.inr rfl) (hs : swapsWith (.Call (.Name x p) (e :: es) [] pos) (some (.Name y py)) pos'.line X.env = pure false := by rfl)
    (hf : X.fn y = true ∨ X.env.scope.names.lookup y = some .local := by first | exact .inl rfl | exact .inr rfl | assumption)
    (hg : Gl X x := by rfl) (hdb : (x == ("__debug__" : Str)) = false := by decide) (he : starEach (e :: es) X.env = (false, eval e X.env) :: starEach es X.env := by rfl) (hpl : (backTo pos (starEach es X.env)).any (·.1) = false := by rfl) :
    DS X W (.Assign [.Name y py] (.Call (.Name x p) (e :: es) [] pos) pos') (fun s => (ga s).thn fun ds s => asgO i m ps.length ds s) := by
  obtain ⟨f, fd, F, hm, hk, hb⟩ := G
  exact ds_ownc i F hr tk hN hm hk hb ha hi hx hs hf hg hdb he hpl
theorem de_never : DE X W e (fun _ => .stuck) := ⟨fun _ _ _ _ _ _ ⟨_, _, _, _, h⟩ => h.elim⟩
theorem ds_never : DS X W st (fun _ => .stuck) := ⟨fun _ _ _ _ _ _ ⟨_, _, _, _, h⟩ => h.elim⟩
/-- an int constant of the module -/
def GInt (mg : Str → Option Value) (x : Str) (i : Int) : Prop := ∃ t, mg x = some (.int i t)
theorem dgi {i : Int} (h : GInt X.mg x i) (hg : Gl X x := by rfl) (hd : (x == ("__debug__" : Str)) = false := by decide) : DE X W (.Name x pos) (fun s => .ok (.int i) s) := by
  obtain ⟨t, h⟩ := h
  exact de_gint hg h hd
def GStr (mg : Str → Option Value) (x : Str) (i : Str) : Prop := ∃ t, mg x = some (.str i t)
theorem dgs {i : Str} (h : GStr X.mg x i) (hg : Gl X x := by rfl) (hd : (x == ("__debug__" : Str)) = false := by decide) : DE X W (.Name x pos) (fun s => .ok (.str i) s) := by
  obtain ⟨t, h⟩ := h
  exact de_gstr hg h hd
/-! ## raise -/
/-- an own exception class without own __init__ -/
structure ExC (K : PySem.W.Frag) (mg : Str → Option Value) (x : Str) (C : Addr) : Prop where
  g : mg x = some (.ref C)
  q : PySem.W.excIn K C [.type "ValueError", .type "Exception", .type "BaseException", .type "object"] "ValueError.__new__" = true
  k : PySem.W.keepIn K (.ref C) = true
  b : PySem.W.subIn K (.ref C) (.type "BaseException") = some true
  t : PySem.W.typeIn K (.ref C) = some (.type "type")
theorem ds_raise {z : Str} {j : Nat} {p2 p3 : Pos} {C : Addr} (T : ExC X.K X.mg x C) (tk : Takes X W) (hc : X.calm = true := by rfl) (hg : Gl X x := by rfl) (hdb : (x == ("__debug__" : Str)) = false := by decide) :
    DS X W (.Raise (some (.Call (.Name x p) [.Constant (.str z) j p2] [] p3)) none pos) (fun s => .exc x none s) := by
  refine ps_imp (ps_raise hc tk (pmk_own PySem.F.excBase_ValueError T.q T.g T.k (raises_own T.b T.t) hg hdb)) fun D σ H ⟨va, s, HP, rl, h⟩ => ?_
  exact h none σ H HP (.ref C) (Stp.refl rl) rfl (.inl T.g)
end
/-! ## the law -/
/-- a heap without its tables -/
def noTab (H : Hp) : Hp := fun b => match H b with
  | some (.tbl _) => none
  | o => o
theorem noTab_sub (H : Hp) : Same (noTab H) H := fun b o e => by
  unfold noTab at e
  split at e
  · cases e
  · exact e
theorem noTab_n (H : Hp) : ∀ b ps, noTab H b ≠ some (.tbl ps) := fun b ps e => by
  unfold noTab at e
  split at e
  · cases e
  · rename_i h; exact h _ e
theorem noTab_of {H : Hp} {b : Addr} {o : HO} (h : H b = some o) (n : ∀ ps, o ≠ .tbl ps) : noTab H b = some o := by
  unfold noTab
  split
  · rename_i ps q; rw [h] at q; exact absurd (Option.some.inj q) (n ps)
  · exact h
theorem seq_noTab {K : PySem.W.Frag} {H : Hp} {a : Addr} {xs : List V} (h : SqL K H a xs) : SqL K (noTab H) a xs := by
  rcases h with (h | ⟨o, h⟩) | h
  · exact .inl (.inl (noTab_of h fun _ z => nomatch z))
  · exact .inl (.inr ⟨o, noTab_of h fun _ z => nomatch z⟩)
  · exact .inr h
def spLaw (K : PySem.W.Frag) : Sp := fun vs H Q _ => ∃ (a : Addr) (ns : List Int), vs = [.ref a] ∧ SqL K H a (ns.map V.int) ∧ ns.length ≤ 63 ∧ LamX.Tabs lamT H ∧ ∀ H', Q (.bl true) H'
theorem law_has {P : Program} {w : World} {K : PySem.W.Frag} {mg : Str → Option Value} {base : Heap} {k : Nat} {f : Addr} {fd : FuncData} {ps : List Str} {m : FM} (hp : ps.length = 1) (F : FnD P w K mg base k f fd ps m) (h : ∀ ns : List Int, ns.length ≤ 63 → m [.scr ns] none = .ok (.bl true) none) :
    FnOk P w K mg base (L2.CX P w) k f fd ps (spLaw K) :=
  F.imp fun vs H Q E ⟨a, ns, e, hs, hl, tb, q⟩ => by
    subst e
    refine ⟨⟨a, none, none⟩, noTab H, [.scr ns], none, [.ref a], by rw [hp]; rfl, noTab_sub H, .cons (.scr (seq_noTab hs)) .nil, rfl, ⟨tb, noTab_n H⟩, ?_⟩
    rw [h ns hl]
    intro v H' HP' _ dv
    cases dv
    exact q H'
theorem cx_none {P : Program} {w : World} {H : Hp} {s s' : Shared} {e : Value} (c : L2.CX P w [] H s (fun _ _ _ => False) e s') : False := by
  obtain ⟨_, _, _, _, _, _, _, _, _, _, _, _, z⟩ := c
  exact z.elim
end DL

namespace DL
open PySem PySem.Spec PyProof.Rows L2
/-! ## how tellings are reckoned -/
def getL (o : Option (Option Sl)) (i : Nat) (s : S) : R D := match o with
  | some (some (.val d)) => .ok d s
  | some (some (.own xs)) => .ok (.lst xs) (s.put i (.val (.lst xs)))
  | _ => .stuck
@[simp] theorem getS_mk (i : Nat) (l : List (Option Sl)) (w : Option (List D)) : getS i ⟨l, w⟩ = getL l[i]? i ⟨l, w⟩ := rfl
@[simp] theorem getL_val (i : Nat) (s : S) (d : D) : getL (some (some (.val d))) i s = .ok d s := rfl
@[simp] theorem getL_own (i : Nat) (s : S) (d : List D) : getL (some (some (.own d))) i s = .ok (.lst d) (s.put i (.val (.lst d))) := rfl
def refL (o : Option (Option Sl)) (w : Option (List D)) : Option (List D) := match o with
  | some (some .via) => w
  | some (some (.own xs)) => some xs
  | _ => none
@[simp] theorem refS_mk (i : Nat) (l : List (Option Sl)) (w : Option (List D)) : refS i ⟨l, w⟩ = refL l[i]? w := rfl
@[simp] theorem refL_via (w : Option (List D)) : refL (some (some .via)) w = w := rfl
@[simp] theorem refL_own (w : Option (List D)) (xs : List D) : refL (some (some (.own xs))) w = some xs := rfl
def ownL (o : Option (Option Sl)) : Bool := match o with
  | some (some (.own _)) => true
  | _ => false
@[simp] theorem isOwn_mk (i : Nat) (l : List (Option Sl)) (w : Option (List D)) : isOwn i ⟨l, w⟩ = ownL l[i]? := rfl
@[simp] theorem ownL_own (xs : List D) : ownL (some (some (.own xs))) = true := rfl
def setL (o : Option (Option Sl)) (i : Nat) (xs : List D) (s : S) : S := match o with
  | some (some .via) => ⟨s.sl, some xs⟩
  | _ => s.put i (.own xs)
@[simp] theorem setRef_mk (i : Nat) (xs : List D) (l : List (Option Sl)) (w : Option (List D)) : S.setRef i xs ⟨l, w⟩ = setL l[i]? i xs ⟨l, w⟩ := rfl
@[simp] theorem setL_via (i : Nat) (xs : List D) (s : S) : setL (some (some .via)) i xs s = ⟨s.sl, some xs⟩ := rfl
@[simp] theorem setL_own (i : Nat) (xs ys : List D) (s : S) : setL (some (some (.own ys))) i xs s = s.put i (.own xs) := rfl
@[simp] theorem wipe_mk (vs : List Nat) (l : List (Option Sl)) (w : Option (List D)) : S.wipe vs ⟨l, w⟩ = ⟨wipeL l vs, w⟩ := rfl
@[simp] theorem wipeL_nil (l : List (Option Sl)) : wipeL l [] = l := rfl
@[simp] theorem wipeL_cons (l : List (Option Sl)) (v : Nat) (vs : List Nat) : wipeL l (v :: vs) = (wipeL l vs).set v none := rfl
@[simp] theorem apnd_mk (i : Nat) (d : D) (l : List (Option Sl)) (w : Option (List D)) (xs : List D) (h : l[i]? = some (some (.own xs))) (hz : xs.length < sizeLine) : apnd i d ⟨l, w⟩ = .next ⟨l.set i (some (.own (xs ++ [d]))), w⟩ := by
  unfold apnd
  show (match l[i]? with | some (some (.own xs)) => _ | _ => _) = _
  rw [h]
  exact if_pos hz
@[simp] theorem stD_none (N : List Str) (ds : List D) : stD N ds none = ⟨ds.map (fun d => some (Sl.val d)) ++ List.replicate (N.length - ds.length) none, none⟩ := rfl
@[simp] theorem stD_some (N : List Str) (ds xs : List D) : stD N ds (some xs) = ⟨some .via :: (ds.map (fun d => some (Sl.val d)) ++ List.replicate (N.length - (ds.length + 1)) none), some xs⟩ := rfl
@[simp] theorem lt_int (i j : Int) : opLt (.int i) (.int j) = some (.bl (decide (i < j))) := rfl
@[simp] theorem le_int (i j : Int) : opLe (.int i) (.int j) = some (.bl (decide (i ≤ j))) := rfl
@[simp] theorem gt_int (i j : Int) : opGt (.int i) (.int j) = some (.bl (decide (j < i))) := rfl
@[simp] theorem ge_int (i j : Int) : opGe (.int i) (.int j) = some (.bl (decide (j ≤ i))) := rfl
@[simp] theorem add_int (i j : Int) : opAdd (.int i) (.int j) = some (.int (i + j)) := rfl
@[simp] theorem sub_int (i j : Int) : opSub (.int i) (.int j) = some (.int (i - j)) := rfl
@[simp] theorem neg_int (i : Int) : opNeg (.int i) = some (.int (-i)) := rfl
theorem mod_pos (i j : Int) (h : 0 < j) : opMod (.int i) (.int j) = some (.int (i % j)) := if_pos h
theorem div_pos (i j : Int) (h : 0 < j) (h2 : j.natAbs.log2 < 9000) : opDiv (.int i) (.int j) = some (.int (i / j)) := if_pos ⟨h, h2⟩
theorem mul_ok (i j : Int) (h : okMul i j = true) : opMul (.int i) (.int j) = some (.int (i * j)) := if_pos h
@[simp] theorem ix_tup' (xs : List D) (i : Int) : opIx (.tup xs) (.int i) = atI xs i := rfl
@[simp] theorem ix_lst' (xs : List D) (i : Int) : opIx (.lst xs) (.int i) = atI xs i := rfl
@[simp] theorem ix_scr' (xs : List Int) (i : Int) : opIx (.scr xs) (.int i) = (atI xs i).map .int := rfl
theorem at_n {α : Type} (xs : List α) (n : Nat) : atI xs (n : Int) = xs[n]? := by
  unfold atI ixN
  rw [if_pos (Int.natCast_nonneg n)]
  by_cases h : n < xs.length
  · rw [if_pos (by omega)]; rfl
  · rw [if_neg (by omega), List.getElem?_eq_none_iff.mpr (by omega)]; rfl
theorem at_of {α : Type} (xs : List α) (i : Int) (h : 0 ≤ i) : atI xs i = xs[i.toNat]? := by
  have := at_n xs i.toNat
  rwa [Int.toNat_of_nonneg h] at this
@[simp] theorem at_0 {α : Type} (xs : List α) : atI xs 0 = xs[0]? := at_n xs 0
@[simp] theorem at_1 {α : Type} (xs : List α) : atI xs 1 = xs[1]? := at_n xs 1
@[simp] theorem at_2 {α : Type} (xs : List α) : atI xs 2 = xs[2]? := at_n xs 2
@[simp] theorem at_3 {α : Type} (xs : List α) : atI xs 3 = xs[3]? := at_n xs 3
@[simp] theorem at_4 {α : Type} (xs : List α) : atI xs 4 = xs[4]? := at_n xs 4
@[simp] theorem at_5 {α : Type} (xs : List α) : atI xs 5 = xs[5]? := at_n xs 5
@[simp] theorem len_lst (xs : List D) : gLen [.lst xs] = some (.int xs.length) := rfl
@[simp] theorem len_tup (xs : List D) : gLen [.tup xs] = some (.int xs.length) := rfl
@[simp] theorem len_scr (xs : List Int) : gLen [.scr xs] = some (.int xs.length) := rfl
@[simp] theorem int_int (i : Int) : gInt [.int i] = some (.int i) := rfl
@[simp] theorem int_bl (i : Bool) : gInt [.bl i] = some (.int (if i then 1 else 0)) := rfl
@[simp] theorem abs_int (i : Int) : gAbs [.int i] = some (.int (if i < 0 then -i else i)) := rfl
@[simp] theorem min_int (i j : Int) : gMin [.int i, .int j] = some (.int (min i j)) := rfl
@[simp] theorem max_int (i j : Int) : gMax [.int i, .int j] = some (.int (max i j)) := rfl
@[simp] theorem tup_lst (xs : List D) : gTup [.lst xs] = some (.tup xs) := rfl
@[simp] theorem tup_tup (xs : List D) : gTup [.tup xs] = some (.tup xs) := rfl
@[simp] theorem lst_lst (xs : List D) : gLst [.lst xs] = some (.lst xs) := rfl
@[simp] theorem lst_tup (xs : List D) : gLst [.tup xs] = some (.lst xs) := rfl
theorem eq_okd {a b : D} (h1 : okd 60 a = true) (h2 : okd 60 b = true) : opEq a b = some (.bl (deq a b)) := by unfold opEq; rw [h1, h2]; rfl
theorem ne_okd {a b : D} (h1 : okd 60 a = true) (h2 : okd 60 b = true) : opNe a b = some (.bl (!deq a b)) := by unfold opNe; rw [h1, h2]; rfl
@[simp] theorem eq_int' (i j : Int) : opEq (.int i) (.int j) = some (.bl (i == j)) := by rw [eq_okd (by simp [okd]) (by simp [okd])]; rfl
@[simp] theorem ne_int' (i j : Int) : opNe (.int i) (.int j) = some (.bl (!(i == j))) := by rw [ne_okd (by simp [okd]) (by simp [okd])]; rfl
theorem eq_str' {x y : Str} (h1 : PyData.strOk x = true) (h2 : PyData.strOk y = true) : opEq (.str x) (.str y) = some (.bl (x == y)) := by rw [eq_okd (by simpa [okd] using h1) (by simpa [okd] using h2)]; rfl
theorem ne_str' {x y : Str} (h1 : PyData.strOk x = true) (h2 : PyData.strOk y = true) : opNe (.str x) (.str y) = some (.bl (!(x == y))) := by rw [ne_okd (by simpa [okd] using h1) (by simpa [okd] using h2)]; rfl
/-- a list beside the empty one -/
theorem ne_nil' {xs : List D} (h : xs.all (okd 59) = true) : opNe (.lst xs) (.lst []) = some (.bl (!xs.isEmpty)) := by
  rw [ne_okd (by simpa [okd] using h) (by simp [okd])]
  cases xs <;> rfl
theorem eq_nil' {xs : List D} (h : xs.all (okd 59) = true) : opEq (.lst xs) (.lst []) = some (.bl xs.isEmpty) := by
  rw [eq_okd (by simpa [okd] using h) (by simp [okd])]
  cases xs <;> rfl
theorem ne_tnil {xs : List D} (h : xs.all (okd 59) = true) : opNe (.tup xs) (.tup []) = some (.bl (!xs.isEmpty)) := by
  rw [ne_okd (by simpa [okd] using h) (by simp [okd])]
  cases xs <;> rfl
@[simp] theorem mkT_ok (ds : List D) (s : S) (h : ds.length ≤ 1000) : mkT ds s = .ok (.tup ds) s := mkT_of h
@[simp] theorem mkL_ok (ds : List D) (s : S) (h : ds.length ≤ 1000) : mkL ds s = .ok (.lst ds) s := mkL_of h
theorem add_tup {xs ys : List D} (h : xs.length + ys.length ≤ 16777216) : opAdd (.tup xs) (.tup ys) = some (.tup (xs ++ ys)) := if_pos (by rw [sizeLine_eq]; exact h)
theorem add_lst {xs ys : List D} (h : xs.length + ys.length ≤ 16777216) : opAdd (.lst xs) (.lst ys) = some (.lst (xs ++ ys)) := if_pos (by rw [sizeLine_eq]; exact h)
theorem isi_of {T t : String} {d : D} {r : Bool} (h1 : tyN d = some t) (h2 : kitB t T = some r) : isiT T d = some (.bl r) := by
  unfold isiT
  rw [h1, Option.bind_some, h2]
  rfl
@[simp] theorem isi_bool_non : isiT "bool" .non = some (.bl false) := isi_of rfl (by decide +kernel)
@[simp] theorem isi_bool_bl (b : Bool) : isiT "bool" (.bl b) = some (.bl true) := isi_of rfl (by decide +kernel)
@[simp] theorem isi_bool_int (b : Int) : isiT "bool" (.int b) = some (.bl false) := isi_of rfl (by decide +kernel)
@[simp] theorem isi_bool_str (b : Str) : isiT "bool" (.str b) = some (.bl false) := isi_of rfl (by decide +kernel)
@[simp] theorem isi_bool_lst (b : List D) : isiT "bool" (.lst b) = some (.bl false) := isi_of rfl (by decide +kernel)
@[simp] theorem isi_bool_tup (b : List D) : isiT "bool" (.tup b) = some (.bl false) := isi_of rfl (by decide +kernel)
@[simp] theorem isi_int_non : isiT "int" .non = some (.bl false) := isi_of rfl (by decide +kernel)
@[simp] theorem isi_int_bl (b : Bool) : isiT "int" (.bl b) = some (.bl true) := isi_of rfl (by decide +kernel)
@[simp] theorem isi_int_int (b : Int) : isiT "int" (.int b) = some (.bl true) := isi_of rfl (by decide +kernel)
@[simp] theorem isi_int_str (b : Str) : isiT "int" (.str b) = some (.bl false) := isi_of rfl (by decide +kernel)
@[simp] theorem isi_int_lst (b : List D) : isiT "int" (.lst b) = some (.bl false) := isi_of rfl (by decide +kernel)
@[simp] theorem isi_int_tup (b : List D) : isiT "int" (.tup b) = some (.bl false) := isi_of rfl (by decide +kernel)
@[simp] theorem isi_str_non : isiT "str" .non = some (.bl false) := isi_of rfl (by decide +kernel)
@[simp] theorem isi_str_bl (b : Bool) : isiT "str" (.bl b) = some (.bl false) := isi_of rfl (by decide +kernel)
@[simp] theorem isi_str_int (b : Int) : isiT "str" (.int b) = some (.bl false) := isi_of rfl (by decide +kernel)
@[simp] theorem isi_str_str (b : Str) : isiT "str" (.str b) = some (.bl true) := isi_of rfl (by decide +kernel)
@[simp] theorem isi_str_lst (b : List D) : isiT "str" (.lst b) = some (.bl false) := isi_of rfl (by decide +kernel)
@[simp] theorem isi_str_tup (b : List D) : isiT "str" (.tup b) = some (.bl false) := isi_of rfl (by decide +kernel)
@[simp] theorem isi_tup_non : isiT "tuple" .non = some (.bl false) := isi_of rfl (by decide +kernel)
@[simp] theorem isi_tup_bl (b : Bool) : isiT "tuple" (.bl b) = some (.bl false) := isi_of rfl (by decide +kernel)
@[simp] theorem isi_tup_int (b : Int) : isiT "tuple" (.int b) = some (.bl false) := isi_of rfl (by decide +kernel)
@[simp] theorem isi_tup_str (b : Str) : isiT "tuple" (.str b) = some (.bl false) := isi_of rfl (by decide +kernel)
@[simp] theorem isi_tup_lst (b : List D) : isiT "tuple" (.lst b) = some (.bl false) := isi_of rfl (by decide +kernel)
@[simp] theorem isi_tup_tup (b : List D) : isiT "tuple" (.tup b) = some (.bl true) := isi_of rfl (by decide +kernel)
theorem notin_ints (i : Int) (xs : List Int) : opNotIn (.int i) (.lst (xs.map .int)) = some (.bl (!xs.any fun z => z == i)) := by
  have h : (xs.map D.int).all (okd 59) = true := by simp [okd]
  show (if (okd 59 (D.int i) && (xs.map D.int).all (okd 59)) = true then _ else _) = _
  rw [if_pos (by rw [h]; rfl)]
  congr 3
  unfold dmem
  rw [List.any_map]
  rfl
@[simp] theorem notin2 (i a b : Int) : opNotIn (.int i) (.lst [.int a, .int b]) = some (.bl (!(a == i || b == i))) := by
  have := notin_ints i [a, b]
  simpa using this
theorem pow_ok (i j : Int) (h : 0 ≤ j ∧ j ≤ 1000000 ∧ i.natAbs < 2 ^ 64) : opPow (.int i) (.int j) = some (.int (i ^ j.toNat)) := if_pos h
@[simp] theorem pow_10_6 : opPow (.int 10) (.int 6) = some (.int 1000000) := by rw [pow_ok 10 6 (by decide)]; rfl
@[simp] theorem sl_tup' (xs : List D) (lo hi : Option Int) : opSl (.tup xs) lo hi = some (.tup (cutG xs lo hi)) := rfl
@[simp] theorem sl_lst' (xs : List D) (lo hi : Option Int) : opSl (.lst xs) lo hi = some (.lst (cutG xs lo hi)) := rfl
theorem cut_from {α : Type} (xs : List α) (n : Nat) : cutG xs (some (n : Int)) none = xs.drop n := by
  unfold cutG
  rw [HT.sIx_none, HT.sIx_nat]
  by_cases h : n ≤ xs.length
  · rw [Nat.min_eq_left h, List.take_of_length_le (by simp)]
  · rw [Nat.min_eq_right (by omega), List.drop_eq_nil_of_le (Nat.le_refl _), List.drop_eq_nil_of_le (by omega)]
    simp
theorem cut_to {α : Type} (xs : List α) (n : Nat) : cutG xs none (some (n : Int)) = xs.take n := by
  unfold cutG
  rw [HT.sIx_none, HT.sIx_nat, List.drop_zero, Nat.sub_zero]
  by_cases h : n ≤ xs.length
  · rw [Nat.min_eq_left h]
  · rw [Nat.min_eq_right (by omega), List.take_of_length_le (by omega), List.take_of_length_le (by omega)]
theorem cut_mid {α : Type} (xs : List α) (m n : Nat) : cutG xs (some (m : Int)) (some (n : Int)) = (xs.drop m).take (n - m) := by
  unfold cutG
  rw [HT.sIx_nat, HT.sIx_nat]
  by_cases h : m ≤ xs.length
  · rw [Nat.min_eq_left h]
    by_cases h2 : n ≤ xs.length
    · rw [Nat.min_eq_left h2]
    · rw [Nat.min_eq_right (by omega), List.take_of_length_le (by simp), List.take_of_length_le (by simp; omega)]
  · have e : min m xs.length = xs.length := by omega
    rw [e, List.drop_eq_nil_of_le (Nat.le_refl _), List.drop_eq_nil_of_le (by omega)]
    simp
@[simp] theorem cut_1 {α : Type} (xs : List α) : cutG xs (some 1) none = xs.drop 1 := cut_from xs 1
def callR (r : FR) (i : Nat) (s : S) : R D := match r with
  | .ok d (some ys) => .ok d (s.setRef i ys)
  | .exc n p (some ys) => .exc n p (s.setRef i ys)
  | _ => .stuck
@[simp] theorem callR_ok (d : D) (ys : List D) (i : Nat) (s : S) : callR (.ok d (some ys)) i s = .ok d (s.setRef i ys) := rfl
def callL (o : Option (List D)) (i : Nat) (m : FM) (n : Nat) (ds : List D) (s : S) : R D := match o with
  | some xs => if ds.length + 1 = n then callR (m ds (some xs)) i s else .stuck
  | none => .stuck
@[simp] theorem callV_mk (i : Nat) (m : FM) (n : Nat) (ds : List D) (l : List (Option Sl)) (w : Option (List D)) : callV i m n ds ⟨l, w⟩ = callL (refL l[i]? w) i m n ds ⟨l, w⟩ := rfl
@[simp] theorem callL_some (xs : List D) (i : Nat) (m : FM) (n : Nat) (ds : List D) (s : S) (h : ds.length + 1 = n) : callL (some xs) i m n ds s = callR (m ds (some xs)) i s := if_pos h
theorem cutG_map {α β : Type} (f : α → β) (xs : List α) (lo hi : Option Int) : cutG (xs.map f) lo hi = (cutG xs lo hi).map f := by
  unfold cutG
  rw [List.length_map, List.map_take, List.map_drop]
theorem intsOf_map' {α : Type} (g : α → Int) : ∀ l : List α, intsOf (l.map fun x => D.int (g x)) = some (l.map g)
  | [] => rfl
  | x :: r => by simp [intsOf, intsOf_map' g r]
@[simp] theorem sum_ints (ns : List Int) : gSum [.tup (ns.map .int)] = some (.int ns.sum) := by simp [gSum]
@[simp] theorem sum_lints (ns : List Int) : gSum [.lst (ns.map .int)] = some (.int ns.sum) := by simp [gSum]
theorem min_lints {α : Type} (g : α → Int) (l : List α) (h : l ≠ []) : gMin [.lst (l.map fun x => D.int (g x))] = some (.int (minL (l.map g))) := by
  have : l.map g ≠ [] := by simpa using h
  simp [gMin, intsOf_map', this]
theorem max_lints {α : Type} (g : α → Int) (l : List α) (h : l ≠ []) : gMax [.lst (l.map fun x => D.int (g x))] = some (.int (maxL (l.map g))) := by
  have : l.map g ≠ [] := by simpa using h
  simp [gMax, intsOf_map', this]
theorem cutG_mem {α : Type} {xs : List α} {lo hi : Option Int} {x : α} (h : x ∈ cutG xs lo hi) : x ∈ xs := List.mem_of_mem_drop (List.mem_of_mem_take h)
theorem sum_bounds {l : List Int} {a b : Int} (h : ∀ x ∈ l, a ≤ x ∧ x ≤ b) : l.length * a ≤ l.sum ∧ l.sum ≤ l.length * b := by
  induction l with
  | nil => simp
  | cons x l ih =>
    have h1 := h x (by simp)
    have h2 := ih fun y hy => h y (by simp [hy])
    rw [List.length_cons, List.sum_cons]
    have e1 : ((l.length + 1 : Nat) : Int) * a = l.length * a + a := by rw [Int.natCast_add, Int.add_mul]; simp
    have e2 : ((l.length + 1 : Nat) : Int) * b = l.length * b + b := by rw [Int.natCast_add, Int.add_mul]; simp
    rw [e1, e2]
    omega
/-! ## loops -/
def whlK (t : S → R Bool) (body : S → T) (n : Nat) (k : Bool) (s : S) : T := if k = true then (match body s with
  | .next s2 => whl t body n s2
  | .cnt s2 => whl t body n s2
  | .brk s2 => .next s2
  | r => r) else .next s
theorem whl3 (t : S → R Bool) (body : S → T) (s : S) : whl t body 3 s = (t s).thn (whlK t body 2) := rfl
theorem whl2 (t : S → R Bool) (body : S → T) (s : S) : whl t body 2 s = (t s).thn (whlK t body 1) := rfl
theorem whl1 (t : S → R Bool) (body : S → T) (s : S) : whl t body 1 s = (t s).thn (whlK t body 0) := rfl
def T.loop (r : T) (k : S → T) : T := match r with
  | .next s2 => k s2
  | .cnt s2 => k s2
  | .brk s2 => .next s2
  | r => r
@[simp] theorem T.loop_next (s : S) (k : S → T) : (T.next s).loop k = k s := rfl
theorem whlK_true (t : S → R Bool) (body : S → T) (n : Nat) (s : S) : whlK t body n true s = (body s).loop (whl t body n) := by
  unfold whlK T.loop
  rw [if_pos rfl]
theorem whlK_false (t : S → R Bool) (body : S → T) (n : Nat) (s : S) : whlK t body n false s = .next s := rfl

/-- a loop that goes through, by an invariant -/
theorem forL_inv {g : D → S → Option S} {body : S → T} (I : Nat → S → Prop) : ∀ (ds : List D) (k : Nat) (s : S), I k s →
    (∀ (i : Nat) d s, ds[i]? = some d → I (k + i) s → ∃ s1 s2, g d s = some s1 ∧ body s1 = .next s2 ∧ I (k + i + 1) s2) → ∃ s', forL g body ds s = .next s' ∧ I (k + ds.length) s'
  | [], k, s, h, _ => ⟨s, rfl, h⟩
  | d :: ds, k, s, h, st => by
    obtain ⟨s1, s2, e1, e2, h2⟩ := st 0 d s rfl h
    obtain ⟨s', e, h'⟩ := forL_inv I ds (k + 1) s2 h2 fun i d s q hi => by
      have := st (i + 1) d s (by simpa using q) (by rwa [show k + (i + 1) = k + 1 + i by omega])
      rwa [show k + (i + 1) + 1 = k + 1 + i + 1 by omega] at this
    refine ⟨s', ?_, by rwa [show k + (d :: ds).length = k + 1 + ds.length by simp; omega]⟩
    unfold forL
    rw [e1]
    dsimp only
    rw [e2]
    exact e
/-- a comprehension whose block leaves the state as it is: a filter and a map -/
theorem compL_pure {vs : List Nat} {g : D → S → Option S} {t : S → R Bool} {f : S → R D} (s0 : S) (tb : D → Bool) (fd : D → D) : ∀ (ds acc : List D),
    (∀ d ∈ ds, ∃ s1 s2 s3, g d s0 = some s1 ∧ t s1 = .ok (tb d) s2 ∧ (tb d = false → s2.wipe vs = s0) ∧ (tb d = true → f s2 = .ok (fd d) s3 ∧ s3.wipe vs = s0)) →
    compL vs g t f ds acc s0 = .ok (acc ++ (ds.filter tb).map fd) s0
  | [], acc, _ => by simp [compL]
  | d :: ds, acc, h => by
    obtain ⟨s1, s2, s3, e1, e2, e3, e4⟩ := h d (by simp)
    unfold compL
    rw [e1]
    dsimp only
    rw [e2]
    dsimp only
    cases b : tb d with
    | false =>
      rw [if_neg Bool.false_ne_true, e3 b, compL_pure s0 tb fd ds acc fun x hx => h x (by simp [hx])]
      simp [b]
    | true =>
      obtain ⟨e5, e6⟩ := e4 b
      rw [if_pos rfl, e5]
      dsimp only
      rw [e6, compL_pure s0 tb fd ds _ fun x hx => h x (by simp [hx])]
      simp [b]
theorem compL_map {vs : List Nat} {g : D → S → Option S} {t : S → R Bool} {f : S → R D} (s0 : S) (tb : D → Bool) (fd : D → D) (ds acc : List D)
    (h : ∀ d ∈ ds, ∃ s1, g d s0 = some s1 ∧ t s1 = .ok (tb d) s1 ∧ (tb d = true → f s1 = .ok (fd d) s1) ∧ s1.wipe vs = s0) :
    compL vs g t f ds acc s0 = .ok (acc ++ (ds.filter tb).map fd) s0 :=
  compL_pure s0 tb fd ds acc fun d hd => by
    obtain ⟨s1, e1, e2, e3, e4⟩ := h d hd
    exact ⟨s1, s1, s1, e1, e2, fun _ => e4, fun q => ⟨e3 q, e4⟩⟩
theorem compL_mapf {α : Type} {vs : List Nat} {g : D → S → Option S} {t : S → R Bool} {f : S → R D} (mk : α → D) (h : α → D) (s0 : S) : ∀ (l : List α) (acc : List D),
    (∀ x ∈ l, ∃ s1, g (mk x) s0 = some s1 ∧ t s1 = .ok true s1 ∧ f s1 = .ok (h x) s1 ∧ s1.wipe vs = s0) → compL vs g t f (l.map mk) acc s0 = .ok (acc ++ l.map h) s0
  | [], acc, _ => by simp [compL]
  | x :: l, acc, q => by
    obtain ⟨s1, e1, e2, e3, e4⟩ := q x (by simp)
    rw [List.map_cons]
    unfold compL
    rw [e1]
    dsimp only
    rw [e2]
    dsimp only
    rw [if_pos rfl, e3]
    dsimp only
    rw [e4, compL_mapf mk h s0 l _ fun y hy => q y (by simp [hy])]
    simp
/-- a comprehension that goes through, by an invariant -/
theorem compL_inv {vs : List Nat} {g : D → S → Option S} {t : S → R Bool} {f : S → R D} (I : Nat → List D → S → Prop) : ∀ (ds : List D) (k : Nat) (acc : List D) (s : S), I k acc s →
    (∀ (i : Nat) d acc s, ds[i]? = some d → I (k + i) acc s → ∃ s1 s2 y s3, g d s = some s1 ∧ t s1 = .ok true s2 ∧ f s2 = .ok y s3 ∧ I (k + i + 1) (acc ++ [y]) (s3.wipe vs)) →
    ∃ ys s', compL vs g t f ds acc s = .ok ys s' ∧ I (k + ds.length) ys s'
  | [], k, acc, s, h, _ => ⟨acc, s, rfl, h⟩
  | d :: ds, k, acc, s, h, st => by
    obtain ⟨s1, s2, y, s3, e1, e2, e3, h2⟩ := st 0 d acc s rfl h
    obtain ⟨ys, s', e, h'⟩ := compL_inv I ds (k + 1) (acc ++ [y]) (s3.wipe vs) h2 fun i d acc s q hi => by
      have := st (i + 1) d acc s (by simpa using q) (by rwa [show k + (i + 1) = k + 1 + i by omega])
      rwa [show k + (i + 1) + 1 = k + 1 + i + 1 by omega] at this
    refine ⟨ys, s', ?_, by rwa [show k + (d :: ds).length = k + 1 + ds.length by simp; omega]⟩
    unfold compL
    rw [e1]
    dsimp only
    rw [e2]
    dsimp only
    rw [if_pos rfl, e3]
    exact e
theorem toR1_ok (j : Int) (s : S) (h : 0 ≤ j) (h2 : j ≤ 16000000) : toR1 [.int j] s = .ok (rngI 0 j) s := if_pos ⟨by omega, h2⟩
theorem rngI_get {lo hi : Int} {i : Nat} {d : D} (h : (rngI lo hi)[i]? = some d) : d = .int (lo + i) ∧ lo + i < hi := by
  have hl : i < (rngI lo hi).length := by
    rcases List.getElem?_eq_some_iff.mp h with ⟨a, _⟩
    exact a
  rw [rngI_len] at hl
  unfold rngI at h
  rw [List.getElem?_map, List.getElem?_range hl] at h
  cases h
  exact ⟨rfl, by omega⟩
def T.nx (t : T) (I : S → Prop) : Prop := ∃ s, t = .next s ∧ I s
@[simp] theorem T.nx_next (s : S) (I : S → Prop) : (T.next s).nx I = I s := propext ⟨fun ⟨_, e, h⟩ => by cases e; exact h, fun h => ⟨_, rfl, h⟩⟩
def R.nx {α : Type} (r : R α) (I : α → S → Prop) : Prop := ∃ a s, r = .ok a s ∧ I a s
@[simp] theorem R.nx_ok {α : Type} (a : α) (s : S) (I : α → S → Prop) : (R.ok a s).nx I = I a s := propext ⟨fun ⟨_, _, e, h⟩ => by cases e; exact h, fun h => ⟨_, _, rfl, h⟩⟩
theorem forL_st {α : Type} {g : D → S → Option S} {body : S → T} (st : α → S) (J : Nat → α → Prop) (ds : List D) (a0 : α) (h0 : J 0 a0)
    (h : ∀ (i : Nat) d a, ds[i]? = some d → J i a → ∃ s1, g d (st a) = some s1 ∧ ∀ I : S → Prop, (∀ a', J (i + 1) a' → I (st a')) → (body s1).nx I) : ∃ a, forL g body ds (st a0) = .next (st a) ∧ J ds.length a := by
  obtain ⟨s', e, a, rfl, hj⟩ := forL_inv (g := g) (body := body) (fun k s => ∃ a, s = st a ∧ J k a) ds 0 (st a0) ⟨a0, rfl, h0⟩ (by
    rintro i d s hd ⟨a, rfl, hj⟩
    obtain ⟨s1, e1, h1⟩ := h i d a hd (by simpa using hj)
    obtain ⟨s2, e2, h2⟩ := h1 (fun s => ∃ a', s = st a' ∧ J (i + 1) a') fun a' h => ⟨a', rfl, h⟩
    exact ⟨s1, s2, e1, e2, by simpa using h2⟩)
  exact ⟨a, e, by simpa using hj⟩
theorem compL_st {α : Type} {vs : List Nat} {g : D → S → Option S} {t : S → R Bool} {f : S → R D} (st : α → S) (J : Nat → List D → α → Prop) (ds : List D) (a0 : α) (h0 : J 0 [] a0)
    (h : ∀ (i : Nat) d acc a, ds[i]? = some d → J i acc a → ∃ s1, g d (st a) = some s1 ∧ t s1 = .ok true s1 ∧ ∀ I : D → S → Prop, (∀ y a', J (i + 1) (acc ++ [y]) a' → I y (st a')) → (f s1).nx fun y s => I y (s.wipe vs)) :
    ∃ ys a, compL vs g t f ds [] (st a0) = .ok ys (st a) ∧ J ds.length ys a := by
  obtain ⟨ys, s', e, a, rfl, hj⟩ := compL_inv (g := g) (vs := vs) (t := t) (f := f) (fun k ys s => ∃ a, s = st a ∧ J k ys a) ds 0 [] (st a0) ⟨a0, rfl, h0⟩ (by
    rintro i d acc s hd ⟨a, rfl, hj⟩
    obtain ⟨s1, e1, e2, h1⟩ := h i d acc a hd (by simpa using hj)
    obtain ⟨y, s2, e3, h2⟩ := h1 (fun y s => ∃ a', s = st a' ∧ J (i + 1) (acc ++ [y]) a') fun y a' h => ⟨a', rfl, h⟩
    exact ⟨s1, s1, y, s2, e1, e2, e3, by simpa using h2⟩)
  exact ⟨ys, a, e, by simpa using hj⟩
theorem has_never {P : Program} {w : World} {K : PySem.W.Frag} {mg : Str → Option Value} {base : Heap} {x : Str} {st : Stmt} {ps : List Str} (T : There K mg x st ps) : Has P w K mg base 0 x ps (fun _ _ => .stuck) := by
  obtain ⟨f, fd, S⟩ := T
  exact ⟨f, fd, ⟨fun vs H Q E ⟨_, _, _, _, _, _, _, _, _, _, z⟩ => z.elim, fun A outer s H args us vs Q E _ _ _ _ ⟨_, _, _, _, _, _, _, _, _, _, z⟩ => z.elim⟩, S.g, S.F.kp, S.b⟩
end DL

namespace DL
open PySem PySem.Spec PyProof.Rows L2
/-! ## what the top has written -/
section
variable {K : PySem.W.Frag} {h : Heap} {mg : Str → Option Value} {x : Str} {st : Stmt} {ps : List Str} {f : Addr} {oc : Value} {od an : Option Addr} {osl : Array (Option Value)} {kV doc pm cdv ct : Value}
theorem stand_of (X : K.In h) (G : h.Ns mainGlobals mg) (a : PySem.W.nsIn K mainGlobals x = some (some (.ref f)))
    (l : K.lookup f = some ⟨oc, od, .func (PySem.W.fnOf x x (defArgs st) (defBody st) (defScope st) .none kV doc pm an cdv ct), osl⟩) (c : PySem.W.codeIn K cdv x = true) (k : PySem.W.keepIn K (.ref f) = true)
    (hb : ∀ (kV doc pm : Value) (an : Option Addr) (cdv ct : Value) (us : List Value), us.length = ps.length → bindArgs (PySem.W.fnOf x x (defArgs st) (defBody st) (defScope st) .none kV doc pm an cdv ct) ⟨us, []⟩ = pure (ps.zip us)) :
    Stand K mg x st ps f (PySem.W.fnOf x x (defArgs st) (defBody st) (defScope st) .none kV doc pm an cdv ct) :=
  ⟨fun_mk l c k, PySem.W.mg_of X G a, .all (hb kV doc pm an cdv ct)⟩
theorem there_of (X : K.In h) (G : h.Ns mainGlobals mg) (a : PySem.W.nsIn K mainGlobals x = some (some (.ref f)))
    (l : K.lookup f = some ⟨oc, od, .func (PySem.W.fnOf x x (defArgs st) (defBody st) (defScope st) .none kV doc pm an cdv ct), osl⟩) (c : PySem.W.codeIn K cdv x = true) (k : PySem.W.keepIn K (.ref f) = true)
    (hb : ∀ (kV doc pm : Value) (an : Option Addr) (cdv ct : Value) (us : List Value), us.length = ps.length → bindArgs (PySem.W.fnOf x x (defArgs st) (defBody st) (defScope st) .none kV doc pm an cdv ct) ⟨us, []⟩ = pure (ps.zip us)) :
    There K mg x st ps := ⟨f, _, stand_of X G a l c k hb⟩
theorem gint_of {i : Int} {t : Nat} (X : K.In h) (G : h.Ns mainGlobals mg) (a : PySem.W.nsIn K mainGlobals x = some (some (.int i t))) : GInt mg x i := ⟨t, PySem.W.mg_of X G a⟩
end
theorem fnd_any {P : Program} {w : World} {K : PySem.W.Frag} {mg : Str → Option Value} {base : Heap} {k : Nat} {x : Str} {st : Stmt} {N ps : List Str} {f' : S → T} {f : Addr} {fd : FuncData} (T : Stand K mg x st ps f fd) (Sc : FnScope N ps (defScope st))
    (body : ∀ (f : Addr) (cdv : Value) (A : Around) (outer : List Env) (s : Shared) (H : Hp) (E : XK), Room k (A.deeper (envOfC x (defScope st) s.heap.objs.size f cdv)) → Takes (cxOf (L2.CX P w) P w K mg base N x (defScope st) f cdv A outer s H E) (fun cls d _ H => E cls d H) → PassesOwn (model (cxOf (L2.CX P w) P w K mg base N x (defScope st) f cdv A outer s H E).prog (cxOf (L2.CX P w) P w K mg base N x (defScope st) f cdv A outer s H E).w) (cxOf (L2.CX P w) P w K mg base N x (defScope st) f cdv A outer s H E).A (cxOf (L2.CX P w) P w K mg base N x (defScope st) f cdv A outer s H E).env (cxOf (L2.CX P w) P w K mg base N x (defScope st) f cdv A outer s H E).xe →
      DSs (cxOf (L2.CX P w) P w K mg base N x (defScope st) f cdv A outer s H E) (fun cls d _ H => E cls d H) (defBody st) f') :
    FnD P w K mg base (k + 1) f fd ps (fun ds v => (f' (stD N ds v)).fin) :=
  fn_d T.F Sc fun cdv A outer s H E hr => ⟨f', body f cdv A outer s H E hr tkX hpX, fun ds v _ => rfl⟩
end DL

namespace DL
open PySem PySem.Spec PyProof.Rows L2
/-! ## clauses, some of them with a name that is never bound -/
abbrev ClT := Addr → Value → Option Addr → TS
/-- what the clauses wish, one behind the other; a clause with a name must never fit -/
def wCl (K : PySem.W.Frag) (D : Ends) : List (Value × Option ClT) → WX
  | [] => fun _ _ _ _ => False
  | (c, none) :: r => fun cls d σ H => PySem.W.exmOne K cls c = some false ∧ wCl K D r cls d σ H
  | (c, some ts) :: r => fun cls d σ H => (PySem.W.exmOne K cls c = some true ∧ ∀ a, H a = none → ts a cls d D σ H) ∨ (PySem.W.exmOne K cls c = some false ∧ wCl K D r cls d σ H)
inductive ClOk (X : Cx) : List ExceptHandler → List (Value × Option ClT) → Prop
  | nil : ClOk X [] []
  | one {x : Str} {c : Value} {ts : ClT} {s0 : Stmt} {ss : List Stmt} {q1 q2 : Pos} {hs : List ExceptHandler} {l : List (Value × Option ClT)} (hc : Names X x c)
      (run : ∀ (a : Addr) (ob : Obj) (cls : Value) (d : Option Addr) (pn : List (Addr × Obj)), Zc cls d ob → (∃ vs, ob.data = .fields vs) → PSs (X.suite a ((a, ob) :: pn)) (s0 :: ss) (ts a cls d)) (r : ClOk X hs l) :
      ClOk X (.ExceptHandler (some (.Name x q1)) none (s0 :: ss) q2 :: hs) ((c, some ts) :: l)
  | skip {x n : Str} {c : Value} {ss : List Stmt} {q1 q2 : Pos} {hs : List ExceptHandler} {l : List (Value × Option ClT)} (hc : Names X x c) (r : ClOk X hs l) : ClOk X (.ExceptHandler (some (.Name x q1)) (some n) ss q2 :: hs) ((c, none) :: l)
section
variable {X : Cx} {bd : List Stmt} {h1 : ExceptHandler} {hs : List ExceptHandler} {l : List (Value × Option ClT)} {pos : Pos} {tb : WX → TS}
theorem ps_try_cl (st : X.stack = X.env :: X.outer) (fr : X.env.frame = some X.env.locals)
    (hb : ∀ (W : WX) (pn : List (Addr × Obj)) (xe : Value → Shared → Prop), Takes (X.tr pn xe) W → PassesOwn (model X.prog X.w) X.A X.env xe → PSs (X.tr pn xe) bd (tb W))
    (ok : ClOk X (h1 :: hs) l) : PS X (.Try bd (h1 :: hs) [] [] pos) (fun D σ H => tb (wCl X.K D l) D σ H) := by
  constructor
  intro pins s σ H D I hw
  have xo := I.ok
  have afr : X.A.frames = some (X.env :: X.outer) := xo.frames.trans (congrArg some st)
  refine wpAny_Try_except (wpAny_mono ((hb (wCl X.K D l) (X.pn ++ pins) _ (fun u s2 caught => ?k1) PassesOwn.looking).run [] s σ H D (I.toTry _) hw) (fun fl s2 hp => ?k2) (fun _ _ z => z))
  case k2 =>
    cases fl with
    | next => exact hp.elim fun τ h => h.elim fun G h => wpAny_execs_nil ⟨τ, G, h.1.ofTry xo, h.2⟩
    | brk => exact hp.elim fun τ h => h.elim fun G h => ⟨τ, G, h.1.ofTry xo, h.2⟩
    | cont => exact hp.elim fun τ h => h.elim fun G h => ⟨τ, G, h.1.ofTry xo, h.2⟩
    | ret u => exact hp.elim fun v h => h.elim fun τ h => h.elim fun G h => ⟨v, τ, G, h.1.ofTry xo, h.2⟩
  case k1 =>
    obtain ⟨a, B, si, pi, τ, G, cls, d, eu, J0, nb, up, sky, na, os, ag, wish⟩ := caught
    subst eu
    have J : Inv X pins τ G si := J0.ofTry xo
    rw [st] at sky
    show wpAny (model X.prog X.w) X.A (noteFrame (.ref a) X.env) _ _ _
    refine Sky.land Zc.steady afr fr sky fun g fl1 up1 => ?_
    have Jg : Inv X pins τ G { s2 with heap := g } := J.landed nb fl1.1 (up.trans up1) os ag
    obtain ⟨ob, fs, hob, hz, hd⟩ := fl1.there
    have out : a ∉ frs (X.env :: X.outer) := fun hm => by
      obtain ⟨_, o2, e2, nf⟩ := fl1.2.2.1.mem hm
      rw [hob] at e2
      cases e2
      exact nf _ hd
    have nl : a ≠ X.env.locals := fun z => out (List.mem_filterMap.mpr ⟨_, List.mem_cons_self, by rw [fr, z]⟩)
    have nf : a ∉ X.fs := fun hm => (List.mem_filterMap.mp hm).elim fun e q => out (List.mem_filterMap.mpr ⟨e, List.mem_cons_of_mem _ q.1, q.2⟩)
    have Sg := Jg.suite hob hd na nl nf
    have chain : ∀ {hs' : List ExceptHandler} {l' : List (Value × Option ClT)}, ClOk X hs' l' → wCl X.K D l' cls d τ G →
        wpAny (model X.prog X.w) X.A (handleBy (.ref a) X.env hs') (SP X pins D) X.xe { s2 with heap := g } := by
      intro hs' l' k
      have fits : ∀ {x : Str} {c : Value} {q1 : Pos} {b : Bool} {Q : Value → Shared → Prop} {E : Value → Shared → Prop}, Names X x c → Q c { s2 with heap := g } → wpAny (model X.prog X.w) (X.A.mark (some (.ref a))) (eval (.Name x q1) X.env) Q E { s2 with heap := g } := fun {x c q1 b Q E} hc q => by
        obtain ⟨hg, hq, e | ⟨e, hv, hn⟩⟩ := hc
        · exact ld_glob (X := X.suite a ((a, ob) :: (X.pn ++ pins))) Sg hg e q hq
        · exact ld_blt (X := X.suite a ((a, ob) :: (X.pn ++ pins))) Sg hg e hv q hn hq
      have cl : PySem.W.Looks (model X.prog X.w) g (typeOf (.ref a)) cls := fun A Q E s k q => wpAny_typeOf_ref (k _ _ hob) (by rw [hz.1]; exact q)
      induction k with
      | nil => exact fun z => z.elim
      | skip hc r ih =>
        rintro ⟨e, w⟩
        refine wpAny_handleBy_cons (codeAny_handlers_test ?_) (fun z => nomatch z)
        exact fits (b := true) hc ((PySem.W.exm_one (M := model X.prog X.w) Jg.kIn cl e).here (ih w))
      | @one x c ts s0 ss q1 q2 hs2 l2 hc run r ih =>
        intro w
        refine wpAny_handleBy_cons (codeAny_handlers_test ?_) (fun z => nomatch z)
        rcases w with ⟨e, w⟩ | ⟨e, w⟩
        · refine fits (b := true) hc ((PySem.W.exm_one (M := model X.prog X.w) Jg.kIn cl e).here ?_)
          refine codeAny_handlers_suite ?_
          refine HandSPX.lands_againZ fl1 fun g4 fl4 up4 => ?_
          have J4 : Inv X pins τ G { s2 with heap := g4 } := J.landed nb fl4.1 ((up.trans up1).trans up4) os ag
          obtain ⟨o4, v4, h4, z4, d4⟩ := fl4.there
          refine wpAny_mono ((run a o4 cls d (X.pn ++ pins) z4 ⟨_, d4⟩).run [] _ _ G _ (J4.suite h4 d4 na nl nf) (w a na)) (fun f s6 hp => ?_) (fun _ _ z => z.elim)
          cases f with
          | next => exact hp.elim fun τ h => h.elim fun G h => ⟨τ, G, h.1.unsuite xo, h.2⟩
          | brk => exact hp.elim fun τ h => h.elim fun G h => ⟨τ, G, h.1.unsuite xo, h.2⟩
          | cont => exact hp.elim fun τ h => h.elim fun G h => ⟨τ, G, h.1.unsuite xo, h.2⟩
          | ret u => exact hp.elim fun v h => h.elim fun τ h => h.elim fun G h => ⟨v, τ, G, h.1.unsuite xo, h.2⟩
        · exact fits (b := true) hc ((PySem.W.exm_one (M := model X.prog X.w) Jg.kIn cl e).here (ih w))
    exact chain ok wish
end
/-! ## other tables -/
section
variable {K : PySem.W.Frag} {va : VA} {s : S} {σ : St} {HP H H1 : Hp}
theorem Rel.grow (r : Rel K va s σ HP H) (e : LamX.ExtN H H1) (t : LamX.Tabs lamT H1) : Stp K va s σ HP H s σ HP H1 := by
  have ko : Obk K va s σ HP H s σ HP H1 := r.ob.step (Same.refl _) (fun b dx fs q n => ⟨e b _ q (fun ps z => nomatch z), n⟩) fun i n p q => ⟨q, rfl⟩
  refine ⟨⟨r.len, fun b o q => e b o (r.sub b o q) fun ps z => r.tab.n b ps (by rw [← z]; exact q), r.val, fun i xs q => ?_, r.vis, fun xs q => ?_, r.dis, r.dvi, ⟨t, r.tab.n⟩, ko.ob⟩, Same.refl _, fun b o h nt n => ⟨e b o h nt.1, n, fun z => z⟩, Iff.rfl, ko.kob⟩
  · obtain ⟨a, vs, h1, h2, h3, h4⟩ := r.own i xs q
    exact ⟨a, vs, h1, h2, e _ _ h3 nL.1, h4⟩
  · obtain ⟨h1, vs, h2, h3⟩ := r.vst xs q
    exact ⟨h1, vs, e _ _ h2 nL.1, h3⟩
end
end DL

namespace DL
open PySem PySem.Spec PyProof.Rows L2 LamX
/-! ## a def that calls the lambda it got -/
/-- the def's context, entered at s -/
abbrev cxG (X : Cx) (Ng : List Str) (x : Str) (sg : Scope) (g : Addr) (cdg : Value) (s : Shared) (H : Hp) : Cx := cxOf C8.CX0 X.prog X.w X.K X.mg X.base Ng x sg g cdg X.A X.stack s H C8.E0
section
variable {X : Cx} {pins : List (Addr × Obj)} {σ : L2.St} {H : Hp} {s : Shared}
theorem pe_actS {Ng : List Str} {qg : Str} {sg : Scope} {g f cc : Addr} {cdg pm ctv : Value} {params : Arguments} {body : Expr} {scope : Scope} {k i : Nat} {a : Str} {pn : List (Addr × Obj)} {xe : Value → Shared → Prop} {W : WX} {t : XK → TE} {p1 p2 : Pos}
    (I : Inv X pins σ H s) (L : LamS X.env.scope scope) (hf : s.heap.get? f = some (PySem.W.kla_obj "<lambda>" (X.env.qual ++ "<lambda>") params body scope (cloFrom X.env.cells scope.names []) pm cc ctv)) (hfn : H f = none) (hfr : f ∉ frs X.stack)
    (bnd : bindArgs (PySem.W.kla_fn "<lambda>" (X.env.qual ++ "<lambda>") params body scope (cloFrom X.env.cells scope.names []) pm (.ref cc) ctv) ⟨[], []⟩ = pure [])
    (tk : Takes ((cxG X Ng qg sg g cdg s H).tr pn xe) W) (hr : Room (k + 1) (X.A.deeper (envOfC qg sg s.heap.objs.size g cdg)))
    (hb : ∀ (A : Around) (outer : List Env) (s : Shared) (H : Hp) (E : XK), Room k (A.deeper (lamEnv X scope s.heap.objs.size f cc)) → PE (lamCx X A outer s H E scope f cc) body (t E))
    (hN : Ng[i]? = some a) (hv : Vis sg a) (hd : (a == ("__debug__" : Str)) = false := by decide) (hcd : (a == ("__classdict__" : Str)) = false := by decide) :
    PE ((cxG X Ng qg sg g cdg s H).tr pn xe) (.Call (.Name a p1) [] [] p2)
      (fun τ G Q => τ[i]? = some (some (.ref f)) ∧ G cc = some (CodeO cc (X.env.qual ++ "<lambda>")) ∧ t (WE W τ) σ G Q) := by
  constructor
  intro pz sz τ G Q J hh
  refine wpAny_Call_Name_kw (thn ((pe_var (pos := p1) (i := i) hN hv hd hcd).run pz sz τ G (fun v G' => v = .ref f ∧ G' = G) J ⟨.ref f, hh.1, rfl, rfl⟩) fun u s1 w => ?_)
  obtain ⟨v, G', J1, rv, rfl, rfl⟩ := w
  obtain rfl : u = Value.ref f := rv
  have ff := J1.base.keep f _ hf hfn hfr fun z => nomatch (show f ∈ ([] : List Addr) from z)
  refine PySem.W.callWith_F0 ⟨_, _, _, _, ff⟩ ?_
  obtain ⟨⟨oc, vs, tt, e1, e2, e3⟩, _, _⟩ := J1.hok cc _ hh.2.1
  have told : codeAny (model X.prog X.w) (X.A.deeper (envOfC qg sg s.heap.objs.size g cdg)) (.call (.ref f) ⟨[], []⟩) (CR (L2.CX X.prog X.w) (envOfC qg sg s.heap.objs.size g cdg :: X.stack) X.prog X.w G' s1 Q (WE W τ)) s1 := by
    refine PySem.W.kla_callFunE hr.depth ff rfl L.co L.gen rfl ⟨cc, oc, vs, tt, rfl, e1, e2, e3⟩ ?_
    rw [bnd]
    refine wpAny_pure (wpAny_newFunctionEnv (fun y hy => (L.own y hy).2) (fun y hy => absurd hy (by simp)) (fun h1 ns sb => ⟨J1.nolimit.fresh _ sb, ?_⟩) L.kind)
    have keep : ∀ b o, s1.heap.get? b = some o → h1.get? b = some o := fun b o e => sb.extBut b o (Nat.ne_of_lt (Heap.lt_size e)) (Heap.get?_push_of_some _ e)
    have J2 := lam_start2 (A := X.A.deeper (envOfC qg sg s.heap.objs.size g cdg)) (outer := envOfC qg sg s.heap.objs.size g cdg :: X.stack) (E := WE W τ) (f := f) (c' := cc) (tk := s1.toks + ([] : List (Str × Value)).length) I L J1.env0 hr.hd J1.base ns keep
    refine PySem.W.kla_codeExpr (wpAny_mono ((hb _ _ s1 G' (WE W τ) (hr.deeper _)).run [] _ _ G' Q J2 hh.2.2) (fun v s2 w => ?_) fun _ _ w => w)
    exact w.elim fun y w => w.elim fun G2 w => ⟨y, G2, w.1.os, w.1.bare, w.1.base, w.1.hok, w.2.1, w.2.2⟩
  refine wpAny_call (codeAny_mono told fun r s2 w => ?_)
  rcases r with e | fl
  · exact passAt tk τ pz G' s1 e s2 J1 w
  · cases fl with
    | ret u => exact J1.after w
    | _ => exact False.elim w
end
/-- what a def makes of the lambda that it got -/
def Gives (X : Cx) (Ng : List Str) (x : Str) (sg : Scope) (g : Addr) (cdg : Value) (bg : List Stmt) (a q : Str) (TT : (XK → Hp → VK → Prop) → Hp → VK → Prop) : Prop :=
  ∀ (f cc : Addr) (s : Shared) (H : Hp) (Q : VK) (tl : XK → Hp → VK → Prop),
    (∀ (W : WX) (pn : List (Addr × Obj)) (xe : Value → Shared → Prop) (p1 p2 : Pos), Takes ((cxG X Ng x sg g cdg s H).tr pn xe) W →
      PE ((cxG X Ng x sg g cdg s H).tr pn xe) (.Call (.Name a p1) [] [] p2) (fun τ G Q => τ[0]? = some (some (.ref f)) ∧ G cc = some (CodeO cc q) ∧ tl (WE W τ) G Q)) →
    H cc = some (CodeO cc q) → TT tl H Q →
    ∃ t, PSs (cxG X Ng x sg g cdg s H).nox bg t ∧ t { nx := fun _ H' => Q .non H', rt := Q } (L2.start Ng [.ref f]) H
section
variable {X : Cx}
/-- x(lambda: body) -/
theorem pe_lamS {T : List (Addr × Str)} {TT : (XK → Hp → VK → Prop) → Hp → VK → Prop} {x a : Str} {g c P : Addr} {k : Nat} {pg : Arguments} {bg : List Stmt} {sg : Scope} {dV kV doc pm cdv ct oc : Value} {an od : Option Addr} {osl : Array (Option Value)} {Ng : List Str}
    {params : Arguments} {body : Expr} {scope : Scope} {t : XK → TE} {p lpos pos : Pos} (hg : Gl X x) (hm : X.mg x = some (.ref g)) (hk : PySem.W.keepIn X.K (.ref g) = true)
    (lk : X.K.lookup g = some ⟨oc, od, .func (PySem.W.fnOf x x pg bg sg dV kV doc pm an cdv ct), osl⟩) (hcg : PySem.W.codeIn X.K cdv x = true) (bn : L2.Binds X.K (PySem.W.fnOf x x pg bg sg dV kV doc pm an cdv ct) [a] []) (Sg : FnScope Ng [a] sg) (hNg : Ng[0]? = some a) (hva : Vis sg a)
    (gv : Gives X Ng x sg g cdv bg a (X.env.qual ++ "<lambda>") TT)
    (TB : TabB X.base X.mg c P) (hcode : X.env.code = .ref c) (hmT : (P, X.env.qual ++ "<lambda>") ∈ T) (hu : ∀ p ∈ T, p.1 = P → p.2 = X.env.qual ++ "<lambda>") (hr : Room (k + 2) X.A) (L : LamS X.env.scope scope) (nodef : defaultsOf params X.env = ([], []))
    (bnd : ∀ (q : Str) (cl : List (Str × Addr)) (pm cv ctv : Value), bindArgs (PySem.W.kla_fn "<lambda>" q params body scope cl pm cv ctv) ⟨[], []⟩ = pure [])
    (hb : ∀ (A : Around) (outer : List Env) (s : Shared) (H : Hp) (E : XK) (f cc : Addr), Room k (A.deeper (lamEnv X scope s.heap.objs.size f cc)) → PE (lamCx X A outer s H E scope f cc) body (t E))
    (hdb : (x == ("__debug__" : Str)) = false := by decide) (hd : (a == ("__debug__" : Str)) = false := by decide) (hcd : (a == ("__classdict__" : Str)) = false := by decide) :
    PE X (.Call (.Name x p) [.Lambda params body scope lpos] [] pos) (tLam T TT t) := by
  constructor
  rintro pins s σ H Q I ⟨hT, h⟩
  refine wpAny_Call_Name_kw (ld_glob I hg hm (PySem.W.callWith_K (h₀ := X.base) I.ok.mod.kin hk ?_ (by rfl) (by rfl)) hdb)
  show wpAny _ _ (spliced ((false, eval (.Lambda params body scope lpos) X.env) :: backTo pos (starEach [] X.env))) _ _ s
  refine Calls.spliced_cons (lam_make2 I TB hcode hmT hu hT nodef (L.has I.ok) fun f cc pm2 ctv G s2 J grow tabs isf nof nofr isc => Calls.spliced_nil ⟨J.kIn, ?_⟩)
  have told : codeAny (model X.prog X.w) X.A (.call (.ref g) ⟨[.ref f], []⟩) (CR C8.CX0 X.stack X.prog X.w G s2 Q C8.E0) s2 := by
    refine run_ofS (N := Ng) (ps := [a]) (us := [.ref f]) (vs := [.ref f]) lk hcg Sg hr J.env0 (bn s2 [.ref f] J.kIn rfl) (.cons rfl .nil) rfl fun hr2 => ?_
    obtain ⟨t2, ht2, hq⟩ := gv f cc s2 G Q (fun E G Q => t E σ G Q) (fun W pn xe p1 p2 tk => pe_actS (i := 0) J L isf nof nofr (bnd _ _ _ _ _) tk hr2 (fun A outer s H E hr3 => hb A outer s H E f cc hr3) hNg hva hd hcd) isc (h G grow tabs)
    exact ⟨t2, ht2.nox, hq⟩
  refine wpAny_call (codeAny_mono told fun r s3 w => ?_)
  rcases r with e | fl
  · exact (show False from w).elim
  · cases fl with
    | ret u => exact J.after w
    | _ => exact False.elim w
end
end DL

namespace DL
open PySem PySem.Spec PyProof.Rows L2 LamX
/-! ## the word for a call's error -/
/-- the word of the first clause that fits -/
def wdOf (K : PySem.W.Frag) (cls : Value) : List (Value × Option Str) → Option Str
  | [] => none
  | (c, w) :: r => match PySem.W.exmOne K cls c with
    | some true => w
    | some false => wdOf K cls r
    | none => none
def toCl (q : Value × Option Str) : Value × Option ClT := (q.1, q.2.map fun w _ _ _ => tAsg (tC (.str w)) (gName 1))
theorem wCl_of {K : PySem.W.Frag} {cls : Value} {d : Option Addr} {σ : L2.St} {H : Hp} {D : Ends} : ∀ (l : List (Value × Option Str)) {w : Str}, wdOf K cls l = some w → D.nx (σ.set 1 (some (.str w))) H → wCl K D (l.map toCl) cls d σ H
  | [], w, e, _ => by cases e
  | (c, none) :: r, w, e, h => by
    unfold wdOf at e
    split at e
    · cases e
    · rename_i z; exact ⟨z, wCl_of r e h⟩
    · cases e
  | (c, some v) :: r, w, e, h => by
    unfold wdOf at e
    split at e
    · rename_i z
      cases e
      exact .inl ⟨z, fun a _ => h⟩
    · rename_i z; exact .inr ⟨z, wCl_of r e h⟩
    · cases e
def TTw (K : PySem.W.Frag) (l : List (Value × Option Str)) : (XK → Hp → VK → Prop) → Hp → VK → Prop := fun tl H Q =>
  ∀ (E : XK) (Q' : VK), (∀ cls d H' w, wdOf K cls l = some w → Q (.str w) H' → E cls d H') → (∀ v H', Q (.str "") H' → Q' v H') → tl E H Q'
theorem word_gives {X : Cx} {N2 : List Str} {x a y q : Str} {sg : Scope} {g : Addr} {cdg : Value} {h1 : ExceptHandler} {hs : List ExceptHandler} {l : List (Value × Option Str)} {j0 : Nat} {p0 p1 p2 q1 q2 q3 q4 q5 q6 : Pos} (nd : (a :: y :: N2).Nodup) (hy : sg.names.lookup y = some .local)
    (ok : ∀ (s : Shared) (H : Hp), ClOk (cxG X (a :: y :: N2) x sg g cdg s H).nox (h1 :: hs) (l.map toCl)) (d1 : (y == ("__debug__" : Str)) = false := by decide) (d2 : (y == ("__classdict__" : Str)) = false := by decide) :
    Gives X (a :: y :: N2) x sg g cdg [.Assign [.Name y p0] (.Constant (.str "") j0 p1) p2, .Try [.Expr (.Call (.Name a q1) [] [] q2) q3] (h1 :: hs) [] [] q4, .Return (some (.Name y q5)) q6] a q (TTw X.K l) := by
  intro f cc s H Q tl act hc h
  refine ⟨_, pss_cons (ps_set (X := (cxG X (a :: y :: N2) x sg g cdg s H).nox) (i := 1) nd rfl (.inl hy) pe_str (by rfl) (.inr hy))
    (pss_cons (ps_try_cl (X := (cxG X (a :: y :: N2) x sg g cdg s H).nox) (tb := fun W D σ H => σ[0]? = some (some (.ref f)) ∧ H cc = some (CodeO cc q) ∧ tl (WE W σ) H (fun _ H' => D.nx σ H')) rfl rfl (fun W pn xe tk _ => ?_) (ok s H))
      (pss_one (ps_ret (pe_var (X := (cxG X (a :: y :: N2) x sg g cdg s H).nox) (i := 1) rfl (.inl hy) d1 d2)))), ?_⟩
  · exact pss_one (ps_expr (act W pn xe q1 q2 tk) (by rfl))
  · refine ⟨rfl, hc, h _ _ (fun cls d H' w e k => ?_) fun v H' k => ?_⟩
    · exact wCl_of l e ⟨_, rfl, k⟩
    · exact ⟨_, rfl, k⟩
/-- what the call of the def with the lambda tells -/
def fW (wd : Str → Option Str) (fb : S → R D) (s : S) : R D := match fb s with
  | .ok _ s' => .ok (.str "") s'
  | .exc n _ s' => match wd n with
    | some w => .ok (.str w) s'
    | none => .stuck
  | .stuck => .stuck
section
variable {X : Cx} {W : WX}
theorem de_word {x a y q : Str} {g c P : Addr} {k : Nat} {N2 : List Str} {sg : Scope} {l : List (Value × Option Str)} {pg : Arguments} {bg : List Stmt} {dV kV doc pm cdv ct oc : Value} {an od : Option Addr} {osl : Array (Option Value)}
    {params : Arguments} {body : Expr} {scope : Scope} {fb : S → R D} {wd : Str → Option Str} {p lpos pos : Pos} (hg : Gl X x) (hm : X.mg x = some (.ref g)) (hk : PySem.W.keepIn X.K (.ref g) = true)
    (lk : X.K.lookup g = some ⟨oc, od, .func (PySem.W.fnOf x x pg bg sg dV kV doc pm an cdv ct), osl⟩) (hcg : PySem.W.codeIn X.K cdv x = true) (bn : L2.Binds X.K (PySem.W.fnOf x x pg bg sg dV kV doc pm an cdv ct) [a] []) (Sg : FnScope (a :: y :: N2) [a] sg) (hva : Vis sg a)
    (gv : Gives X (a :: y :: N2) x sg g cdv bg a (X.env.qual ++ "<lambda>") (TTw X.K l))
    (hw : ∀ n w C, wd n = some w → ECl X.mg n C → wdOf X.K C l = some w)
    (TB : TabB X.base X.mg c P) (hcode : X.env.code = .ref c) (hmT : (P, X.env.qual ++ "<lambda>") ∈ lamT) (hu : ∀ p ∈ lamT, p.1 = P → p.2 = X.env.qual ++ "<lambda>") (hr : Room (k + 2) X.A) (L : LamS X.env.scope scope) (nodef : defaultsOf params X.env = ([], []))
    (bnd : ∀ (q : Str) (cl : List (Str × Addr)) (pm cv ctv : Value), bindArgs (PySem.W.kla_fn "<lambda>" q params body scope cl pm cv ctv) ⟨[], []⟩ = pure [])
    (hb : ∀ (A : Around) (outer : List Env) (s : Shared) (H : Hp) (E : XK) (f cc : Addr), Room k (A.deeper (lamEnv X scope s.heap.objs.size f cc)) → DE (lamCx X A outer s H E scope f cc) (fun cls d _ H => E cls d H) body fb)
    (hdb : (x == ("__debug__" : Str)) = false := by decide) (hd : (a == ("__debug__" : Str)) = false := by decide) (hcd : (a == ("__classdict__" : Str)) = false := by decide) :
    DE X W (.Call (.Name x p) [.Lambda params body scope lpos] [] pos) (fW wd fb) := by
  refine pe_imp (pe_lamS (TT := TTw X.K l) (t := fun E σ H Q => ∃ va s HP, Rel X.K va s σ HP H ∧ ∀ Y : Cx, Y.K = X.K → Y.mg = X.mg → PoE Y (fun cls d _ H => E cls d H) va s σ HP H (fb s) Q) hg hm hk lk hcg bn Sg rfl hva gv TB hcode hmT hu hr L nodef bnd (fun A outer s H E f cc hr2 => pe_imp (hb A outer s H E f cc hr2) fun σ H Q ⟨va, s, HP, rl, h⟩ => ⟨va, s, HP, rl, h _ rfl rfl⟩) hdb hd hcd) fun σ H Q h => ?_
  obtain ⟨va, s, HP, rl, h⟩ := h
  refine ⟨rl.tab.t, fun G grow tabs E Q' hE hQ => ?_⟩
  have st := rl.grow grow tabs
  refine ⟨va, s, HP, st.rel, fun Y eK em => ?_⟩
  unfold fW at h
  cases e : fb s with
  | stuck => rw [e] at h; exact h
  | ok d s' =>
    rw [e] at h
    intro v H' HP' st2 dv
    rw [eK] at st2
    exact hQ _ _ (h (.str "") H' HP' (st.trans st2) (.str _))
  | exc n p s' =>
    rw [e] at h
    dsimp only at h
    intro dd H' HP' C st2 hx hC
    rw [eK] at st2
    rw [em] at hC
    cases ew : wd n with
    | none => rw [ew] at h; exact h.elim
    | some w =>
      rw [ew] at h
      exact hE _ _ _ w (hw n w C ew hC) (h (.str w) H' HP' (st.trans st2) (.str _))
end
end DL

namespace DL
open PySem PySem.Spec PyProof.Rows L2
/-! ## texts -/
def asS (d : D) (s : S) : R Str := match d with
  | .str x => .ok x s
  | _ => .stuck
@[simp] theorem asS_str (x : Str) (s : S) : asS (.str x) s = .ok x s := rfl
/-- a text's method with one argument -/
def MtD (X : Cx) (id : String) (g : Str → D → Option D) : Prop := ∃ r : V → List V → Hp → VK → Prop, MtR X id r ∧
  ∀ (W : WX) (va : VA) (s : S) (σ : St) (HP H : Hp) (a : Str) (y : V) (b d : D) (Q : VK), Rel X.K va s σ HP H → Dv X.K HP y b → g a b = some d → PoE X W va s σ HP H (.ok d s) Q → r (.str a) [y] H Q
def strsOf : List D → Option (List Str)
  | [] => some []
  | .str x :: r => (strsOf r).map (x :: ·)
  | _ => none
@[simp] theorem strsOf_map : ∀ xs : List Str, strsOf (xs.map D.str) = some xs
  | [] => rfl
  | x :: r => by simp [strsOf, strsOf_map r]
theorem strsOf_vals {K : PySem.W.Frag} {H : Hp} : ∀ {ds : List D} {vs : List V} {xs : List Str}, DvA K H vs ds → strsOf ds = some xs → vs = xs.map V.str
  | [], _, xs, h, e => by cases h; cases e; rfl
  | d :: ds, _, xs, h, e => by
    cases h with
    | cons h1 h2 =>
      cases h1 <;> simp [strsOf] at e
      obtain ⟨ms, e1, e2⟩ := e
      subst e2
      rw [strsOf_vals h2 e1]
      rfl
theorem strs_dv {K : PySem.W.Frag} {H : Hp} : ∀ xs : List Str, DvA K H (xs.map V.str) (xs.map D.str)
  | [] => .nil
  | x :: r => .cons (.str x) (strs_dv r)
def gSplit (a : Str) (d : D) : Option D := match d with
  | .str b => if (b.length == 0) = false ∧ a.length + 2 ≤ sizeLine then some (.lst ((Txt.split a b).map .str)) else none
  | _ => none
def gStripC (a : Str) (d : D) : Option D := match d with
  | .str b => if a.length ≤ sizeLine then some (.str (Txt.stripChars a b)) else none
  | _ => none
def gJoin (a : Str) (d : D) : Option D := match d with
  | .lst ds => (strsOf ds).bind fun ys => if (ys.map (·.length)).sum + ys.length * a.length ≤ 16777216 then some (.str (Txt.join a ys)) else none
  | .tup ds => (strsOf ds).bind fun ys => if (ys.map (·.length)).sum + ys.length * a.length ≤ 16777216 then some (.str (Txt.join a ys)) else none
  | _ => none
section
variable {X : Cx} {W : WX} {o e : Expr} {fo fe : S → R D}
theorem md_split : MtD X "str.split" gSplit := by
  refine ⟨_, mt_split, fun W va s σ HP H a y b d Q rl dy e p => ?_⟩
  unfold gSplit at e
  split at e
  · split at e <;> cases e
    cases dy
    rename_i b h
    exact ⟨a, b, rfl, rfl, h.1, h.2, fun q hq => fin_lst p rl (strs_dv _) (by rw [List.length_map]; exact Nat.le_trans (PyProof.Rows.split_le a b) h.2) q hq⟩
  · cases e
theorem md_strip : MtD X "str.strip" gStripC := by
  refine ⟨_, mt_stripChars, fun W va s σ HP H a y b d Q rl dy e p => ?_⟩
  unfold gStripC at e
  split at e
  · split at e <;> cases e
    cases dy
    exact ⟨_, _, rfl, rfl, by assumption, fin_str p rl⟩
  · cases e
theorem md_join : MtD X "str.join" gJoin := by
  refine ⟨_, mt_join, fun W va s σ HP H a y b d Q rl dy e p => ?_⟩
  unfold gJoin at e
  split at e
  · obtain ⟨ys, e1, e2⟩ := Option.bind_eq_some_iff.mp e
    split at e2 <;> cases e2
    cases dy with
    | @lst q vs _ z1 zz z2 => exact ⟨a, q, ys, rfl, rfl, .inl (by rw [← strsOf_vals z2 e1]; exact SqL.of (rl.sub _ _ z1)), by assumption, fin_str p rl⟩
  · obtain ⟨ys, e1, e2⟩ := Option.bind_eq_some_iff.mp e
    split at e2 <;> cases e2
    cases dy with
    | @tup q vs _ z1 zz z2 => exact ⟨a, q, ys, rfl, rfl, .inr (by rw [← strsOf_vals z2 e1]; exact SqT.of (rl.sub _ _ z1)), by assumption, fin_str p rl⟩
  · cases e
theorem de_m1 {id : String} {name : Str} {apos pos : Pos} {g : Str → D → Option D} (slot : Slot "str" name id) (ty : typeOf (.builtin id) = pure (.type "method_descriptor")) (rule : MtD X id g) (ho : DE X W o fo) (he : DE X W e fe)
    (hs : starEach [e] X.env = [(false, eval e X.env)] := by rfl) (hbase : attributeBase o name X.env (eval o X.env) = eval o X.env := by rfl) (hline : (apos.endLine == pos.line) = true := by rfl) :
    DE X W (.Call (.Attribute o name apos) [e] [] pos) (fun s => ((fo s).bind asS).bind fun x s => (fe s).bind fun y s => lift (g x y) s) := by
  obtain ⟨r, h1, h2⟩ := rule
  refine pe_imp (pe_m1 slot ty h1 ho he hs hbase hline) fun σ H Q h => ?_
  obtain ⟨va, s, HP, rl, h⟩ := h
  refine ⟨va, s, HP, rl, ?_⟩
  dsimp only at h
  cases e0 : fo s with
  | stuck => rw [e0] at h; exact h
  | exc n p s' => rw [e0] at h; exact h
  | ok x s1 =>
    rw [e0] at h
    intro v1 H1 HP1 st1 d1
    cases x with
    | str a =>
      cases d1
      refine ⟨⟨a, rfl⟩, va, s1, HP1, st1.rel, ?_⟩
      have h' := PoE.from st1 h
      simp only [R.bind_ok, asS_str] at h'
      cases e1 : fe s1 with
      | stuck => rw [e1] at h'; exact h'
      | exc n p s' => rw [e1] at h'; exact h'
      | ok y s2 =>
        rw [e1] at h'
        intro v2 H2 HP2 st2 d2
        have h3 := PoE.from st2 h'
        simp only [R.bind_ok] at h3
        cases e2 : g a y with
        | none => rw [e2] at h3; exact h3.elim
        | some d => rw [e2] at h3; exact h2 W va s2 σ HP2 H2 a v2 y d Q st2.rel d2 e2 h3
    | _ => exact h.elim
end
end DL

namespace DL
open PySem PySem.Spec PyProof.Rows L2
/-! ## texts, further -/
/-- the signs of a text -/
def sgD (x : Str) : List D := x.cps.toList.map fun c => .str ⟨#[c]⟩
theorem walks_str {K : PySem.W.Frag} {HP0 : Hp} {x : Str} : Walks K (Its x) (sgD x) HP0 := fun i HP H e1 e2 => by
  refine ⟨fun d hd => ?_, fun h => (by simpa [sgD] using h : x.cps.size ≤ i)⟩
  have hlt : i < x.cps.size := by
    rcases Nat.lt_or_ge i x.cps.size with z | z
    · exact z
    · rw [List.getElem?_eq_none_iff.mpr (by simpa [sgD] using z)] at hd; cases hd
  refine ⟨hlt, fun v H' ⟨y1, c, y2, y3⟩ => ?_⟩
  subst y1 y3
  have hd' : (.str ⟨#[c]⟩ : D) = d := by
    unfold sgD at hd
    rw [List.getElem?_map, Array.getElem?_toList, y2] at hd
    simpa using hd
  subst hd'
  exact ⟨HP, .str _, fun va s σ r => Stp.refl r⟩
def asSg (d : D) (s : S) : R (List D) := match d with
  | .str x => if x.length ≤ sizeLine then .ok (sgD x) s else .stuck
  | _ => .stuck
def opSlS (x : D) (lo hi : Option Int) : Option D := match x with
  | .str z => if z.length ≤ sizeLine then some (.str (cutS z lo hi)) else none
  | _ => none
/-- one sign in a text -/
def opInS (x y : D) : Option D := match x, y with
  | .str c, .str z => match c.cps.toList with
    | [k] => some (.bl (decide (k ∈ z.cps.toList)))
    | _ => none
  | _, _ => none
def opNotInS (x y : D) : Option D := match x, y with
  | .str c, .str z => match c.cps.toList with
    | [k] => some (.bl (!decide (k ∈ z.cps.toList)))
    | _ => none
  | _, _ => none
def gIntS : List D → Option D
  | [.str a] => if a.length ≤ 640 then (intText? a).map .int else none
  | ds => gInt ds
def gStr : List D → Option D
  | [.int i] => if i.natAbs.log2 < 1920 then some (.str (Str.ofString (toString i))) else none
  | [.str a] => some (.str a)
  | _ => none
section
variable {X : Cx} {W : WX} {a b c e tg : Expr} {fa fb fc : S → R D} {pos : Pos}
theorem di_str (ha : DE X W a fa) : DI X W tg a (fun s => (fa s).bind asSg) := by
  refine ⟨fun pins s σ H Q I h => ?_⟩
  obtain ⟨va, st, HP, rl, h⟩ := h
  dsimp only at h
  refine (pi_str (tg := tg) ha).run pins s σ H Q I (bindE rl (fun d s' v H' HP' e stp dv => ?_) (fun n p s' dd H' HP' C e stp z m => ?_) (fun e => ?_)) <;> rw [e] at h
  · cases d with
    | str x =>
      cases dv
      simp only [R.bind_ok, asSg] at h
      split at h
      · rename_i hz
        exact ⟨x, rfl, h (Its x) H' HP' stp (by simp only [sgD, List.length_map, Array.length_toList]; exact hz) walks_str⟩
      · exact h.elim
    | _ => exact h.elim
  · exact h dd H' HP' C stp z m
  · exact h
theorem od_ins : OpD X (compareOp .In) opInS := by
  refine ⟨_, op_in_sign, fun W va s σ HP H x y a b d Q rl dx dy e p => ?_⟩
  unfold opInS at e
  split at e
  · split at e <;> cases e
    cases dx; cases dy
    rename_i c z zz k hk
    exact ⟨k, z, by rw [show c = ⟨#[k]⟩ from Str.ext' (Array.toList_inj.mp hk)], rfl, fin_bl p rl⟩
  · cases e
theorem od_notins : OpD X (compareOp .NotIn) opNotInS := by
  refine ⟨_, op_notIn_sign, fun W va s σ HP H x y a b d Q rl dx dy e p => ?_⟩
  unfold opNotInS at e
  split at e
  · split at e <;> cases e
    cases dx; cases dy
    rename_i c z zz k hk
    exact ⟨k, z, by rw [show c = ⟨#[k]⟩ from Str.ext' (Array.toList_inj.mp hk)], rfl, fin_bl p rl⟩
  · cases e
theorem cd_ints : CallD X (.type "int") gIntS := by
  obtain ⟨r, h1, h2⟩ := cd_int (X := X)
  refine ⟨_, CallR.or call_int_str h1, fun W va s σ HP H vs ds d Q rl dv e p => ?_⟩
  unfold gIntS at e
  split at e
  · split at e
    · obtain ⟨n, e1, e2⟩ := Option.map_eq_some_iff.mp e
      cases e2
      cases dv with
      | cons y1 y2 => cases y2; cases y1; exact .inl ⟨_, n, rfl, e1, by assumption, fin_int p rl⟩
    · cases e
  · exact .inr (h2 W va s σ HP H vs _ d Q rl dv e p)
theorem cd_str : CallD X (.type "str") gStr := by
  refine ⟨_, CallR.or call_str_int SkE.call_str_str, fun W va s σ HP H vs ds d Q rl dv e p => ?_⟩
  unfold gStr at e
  split at e
  · split at e <;> cases e
    cases dv with
    | cons y1 y2 => cases y2; cases y1; exact .inl ⟨_, rfl, by assumption, fin_str p rl⟩
  · cases e
    cases dv with
    | cons y1 y2 => cases y2; cases y1; exact .inr ⟨_, rfl, fin_str p rl⟩
  · cases e
theorem de_slS {lo hi : Option Expr} {fl fh : S → R (Option Int)} {p2 : Pos} (ha : DE X W a fa) (hl : DO X W lo fl) (hh : DO X W hi fh) :
    DE X W (.Subscript a (.Slice lo hi none p2) pos) (fun s => (fa s).bind fun x s => (fl s).bind fun l s => (fh s).bind fun u s => lift (opSlS x l u) s) := by
  refine pe_imp (pe_slice sl_str ha hl hh) fun σ H Q h => ?_
  obtain ⟨va, s, HP, rl, h⟩ := h
  dsimp only at h
  refine bindEE rl h fun x s1 v H1 HP1 st1 d1 h1 => ?_
  refine ⟨va, s1, HP1, st1.rel, ?_⟩
  cases e1 : fl s1 with
  | stuck => rw [e1] at h1; exact h1
  | exc n p s' => rw [e1] at h1; exact h1
  | ok l s2 =>
    rw [e1] at h1
    intro H2 HP2 st2
    have h2 := PoE.from st2 h1
    refine ⟨va, s2, HP2, st2.rel, ?_⟩
    cases e2 : fh s2 with
    | stuck => simp only [R.bind_ok, e2, R.bind_stuck] at h2; exact h2
    | exc n p s' => simp only [R.bind_ok, e2, R.bind_exc] at h2; exact h2
    | ok u s3 =>
      simp only [R.bind_ok, e2] at h2
      intro H3 HP3 st3
      have h3 := PoE.from st3 h2
      cases x with
      | str z =>
        cases d1
        unfold opSlS at h3
        dsimp only at h3
        by_cases hz : z.length ≤ sizeLine
        · rw [if_pos hz] at h3
          exact ⟨z, rfl, hz, fin_str h3 st3.rel⟩
        · rw [if_neg hz] at h3; exact h3.elim
      | _ => exact h3.elim
end
end DL

namespace DL
open PySem PySem.Spec PyProof.Rows L2 LamX
/-- a def, its code object known -/
theorem fnd_code {P : Program} {w : World} {K : PySem.W.Frag} {mg : Str → Option Value} {base : Heap} {k : Nat} {x : Str} {st : Stmt} {N ps : List Str} {f' : S → T} {f : Addr} {oc : Value} {od an : Option Addr} {osl : Array (Option Value)} {kV doc pm cdv ct : Value}
    (lk : K.lookup f = some ⟨oc, od, .func (PySem.W.fnOf x x (defArgs st) (defBody st) (defScope st) .none kV doc pm an cdv ct), osl⟩) (hcd : PySem.W.codeIn K cdv x = true) (Sc : FnScope N ps (defScope st))
    (body : ∀ (A : Around) (outer : List Env) (s : Shared) (H : Hp) (E : XK), Room k (A.deeper (envOfC x (defScope st) s.heap.objs.size f cdv)) → Takes (cxOf (L2.CX P w) P w K mg base N x (defScope st) f cdv A outer s H E) (fun cls d _ H => E cls d H) → PassesOwn (model (cxOf (L2.CX P w) P w K mg base N x (defScope st) f cdv A outer s H E).prog (cxOf (L2.CX P w) P w K mg base N x (defScope st) f cdv A outer s H E).w) (cxOf (L2.CX P w) P w K mg base N x (defScope st) f cdv A outer s H E).A (cxOf (L2.CX P w) P w K mg base N x (defScope st) f cdv A outer s H E).env (cxOf (L2.CX P w) P w K mg base N x (defScope st) f cdv A outer s H E).xe →
      DSs (cxOf (L2.CX P w) P w K mg base N x (defScope st) f cdv A outer s H E) (fun cls d _ H => E cls d H) (defBody st) f') :
    FnD P w K mg base (k + 1) f (PySem.W.fnOf x x (defArgs st) (defBody st) (defScope st) .none kV doc pm an cdv ct) ps (fun ds v => (f' (stD N ds v)).fin) := by
  constructor
  · rintro vs H Q E ⟨_, _, _, _, _, e, _⟩
    exact e
  · intro A outer s H args us vs Q E hr e0 hb rv h
    obtain ⟨va, HP, ds, v, vs', e1, sm, dv, ar, tb, po⟩ := h
    refine run_ofS lk hcd Sc hr e0 hb rv e1 fun hr2 => ?_
    have hN : ps.length ≤ N.length := by
      have := congrArg List.length Sc.pre
      rw [List.length_take] at this
      omega
    refine ⟨_, body A outer s H E hr2 tkX hpX, va, stD N ds v, HP, rel_start (by rw [e1]; exact hN) sm dv ar tb, ?_⟩
    dsimp only at po
    cases q : f' (stD N ds v) with
    | stuck => rw [q] at po; exact po
    | brk s' => rw [q] at po; exact po.elim
    | cnt s' => rw [q] at po; exact po.elim
    | next s' => rw [q] at po; exact fun σ' H' HP' stp => po .non H' HP' stp.fg .non
    | ret d s' => rw [q] at po; exact fun v' σ' H' HP' stp dv' => po v' H' HP' stp.fg dv'
    | retO xs s' => rw [q] at po; exact fun p vs σ' H' HP' stp n z dv' => po p vs H' HP' stp.fg n z dv'
    | exc n p s' => rw [q] at po; exact fun dd σ' H' HP' C stp z y => po dd H' HP' C stp.fg z y
/-- the end of a law in whose defs xs lambdas stand -/
theorem walk_ofTabs {l : PySem.W.OpenLaw} {n k : Nat} {q : Program} {loose : List Str} {XP : (Str → Option Value) → Heap → Prop} {YP : World → Heap → Prop} {d : DefRec} {K : Params → PySem.W.Frag} {CX : World → CXT} {x : Str} (xs : List Str)
    (hn : l.most = some n) (hn2 : n ≤ sizeLine) (hdf : d.params.defaults = []) (hr : Room k callerA) (hrec : ∀ y ∈ xs, ((recsOf q).any fun e => e.name == y) = true) (hY : ∀ (w : World) (h : Heap), YP w h → (K w.params).In h)
    (F : ∀ (w : World) (mg : Str → Option Value) (fa : Addr) (h : Heap), YP w h → (K w.params).In h → h.Ns mainGlobals mg → mg d.name = some (.ref fa) → (∀ y ∈ xs, ∀ fy, mg y = some (.ref fy) → OwnTab (K w.params) fy h) → LawAtS l w (K w.params) (CX w) k n x mg fa h)
    (none_left : ∀ (w : World) (G : Hp) (t0 : Shared) (e : Value) (t1 : Shared), CX w [] G t0 (fun _ _ _ => False) e t1 → False) : PySem.W.WalkO q loose XP YP l.row.toRowW d [] (fun f vs => PySem.call f vs) := by
  refine Att.attach_callB hn hdf fun w s0 s1 mg mb fa o pm cd doc a vs ns G Y ho hd hcd hmg hobj hints hlen hbits hg => ?_
  have KX := hY w _ Y
  have tabs : ∀ y ∈ xs, ∀ fy, mg y = some (.ref fy) → OwnTab (K w.params) fy s1.heap := by
    intro y hy fy my c P o1 fd1 e dd us sl k1 k2 k3 k4 k5
    obtain ⟨r, hm, hq⟩ := List.any_eq_true.mp (hrec y hy)
    have hq2 : r.name = y := beq_iff_eq.mp hq
    obtain ⟨b, o2, fd2, c2, P2, m1, m2, m3, m4, _, ⟨oc, uc, m5, _, m6, m7⟩, m8⟩ := G.T.tab r hm
    rw [hq2, my] at m1
    cases m1
    rw [KX _ _ k1] at m2
    cases m2
    rw [k2] at m3
    cases m3
    rw [k3] at m4
    cases m4
    rw [KX _ _ k4] at m5
    cases m5
    cases m6
    rw [k5] at m7
    cases m7
    exact m8
  obtain ⟨fd, cs, sp, hT, nT, C, hb, hsp, hF⟩ := F w mg fa _ Y KX G.T.g hmg tabs
  exact law_callTs KX G.T.g G.T.b G.T.builtins G.T.nolimit hg hT nT C G.T.bmain hobj hints (Nat.le_trans hlen hn2) hr hF hb (fun H hH hS => hsp H a ns hlen hbits hH hS) fun H e s' => none_left w H s1 e s'
end DL

namespace DL
open PySem PySem.Spec PyProof.Rows L2
/-! ## a text so many times -/
open Classical in
noncomputable def opMulS (x y : D) : Option D := match x, y with
  | .str z, .int n => if MulOk z n then some (.str (Txt.mul z n)) else none
  | _, _ => none
theorem op_times {X : Cx} : OpR X (binaryOp .Mult) (fun x y H Q => ∃ z n, x = .str z ∧ y = .int n ∧ MulOk z n ∧ Q (.str (Txt.mul z n)) H) := by
  intro pins s σ H x y v u Q I rx ry h
  obtain ⟨z, n, rfl, rfl, ok, q⟩ := h
  obtain ⟨t, rfl⟩ := rx
  obtain ⟨t2, rfl⟩ := ry
  exact SB.mul ok fun t3 k => ⟨.str _, H, I.tok _, ⟨_, rfl⟩, q⟩
theorem od_muls {X : Cx} : OpD X (binaryOp .Mult) opMulS := by
  refine ⟨_, op_times, fun W va s σ HP H x y a b d Q rl dx dy e p => ?_⟩
  unfold opMulS at e
  split at e
  · split at e <;> cases e
    cases dx; cases dy
    exact ⟨_, _, rfl, rfl, by assumption, fin_str p rl⟩
  · cases e
theorem mul_str {z : Str} {n : Int} (h : MulOk z n) : opMulS (.str z) (.int n) = some (.str (Txt.mul z n)) := if_pos h
/-! ## a sum of two lists for one slot alone -/
def addO (i : Nat) (x y : D) (s : S) : T := match x, y with
  | .lst xs, .lst ys => if xs.length + ys.length ≤ sizeLine then .next (s.put i (.own (xs ++ ys))) else .stuck
  | _, _ => .stuck
section
variable {X : Cx} {W : WX} {a b : Expr} {fa fb : S → R D} {pos p0 : Pos}
theorem ds_ownadd (i : Nat) {x : Str} {pos' : Pos} (hN : X.N.Nodup) (ha : DE X W a fa) (hb : DE X W b fb) (hi : X.N[i]? = some x := by rfl) (hx : Loc X.env.scope x := by first | exact Or.inl rfl | exact Or.inr rfl)
    (hs : swapsWith (.BinOp a .Add b p0) (some (.Name x pos')) pos.line X.env = pure false := by rfl) (hf : X.fn x = true ∨ X.env.scope.names.lookup x = some .local := by first | exact .inl rfl | exact .inr rfl | assumption) :
    DS X W (.Assign [.Name x pos'] (.BinOp a .Add b p0) pos) (fun s => (fa s).thn fun x s => (fb s).thn fun y s => addO i x y s) := by
  refine ps_imp (ps_set hN hi hx (pe_op op_cat ha hb) hs hf) fun D σ H ⟨va, s, HP, rl, h⟩ => ?_
  refine bindES rl h fun x s1 v H1 HP1 st1 d1 h1 => bindES st1.rel h1 fun y s2 u H2 HP2 st2 d2 h2 => ?_
  have d1' := Dv.mono st2.same x v d1
  unfold addO at h2
  split at h2
  · split at h2
    · rename_i hz
      cases d1' with
      | @lst q xs ds y0 y1 a1 =>
        cases d2 with
        | @lst r ys es z0 z1 a2 =>
          refine ⟨q, r, xs, ys, rfl, rfl, st2.rel.sub _ _ y0, st2.rel.sub _ _ z0, by rw [a1.length, a2.length]; exact hz, fun n hn => ?_⟩
          exact h2 _ _ HP2 (st2.rel.putOwn i hn (by rw [List.length_append]; exact hz) (a1.append a2))
    · exact h2.elim
  · exact h2.elim
end
end DL

namespace DL
open PySem PySem.Spec PyProof.Rows L2
/-! ## a comprehension with two clauses -/
def compL2 (vs vs1 : List Nat) (g : D → S → Option S) (t : S → R Bool) (fi1 : S → R (List D)) (g1 : D → S → Option S) (t1 : S → R Bool) (f : S → R D) : List D → List D → S → R (List D)
  | [], acc, s => .ok acc s
  | d :: ds, acc, s => match g d s with
    | none => .stuck
    | some s1 => match t s1 with
      | .ok k s2 => if k = true then (match fi1 s2 with
        | .ok es s3 => if acc.length + es.length ≤ sizeLine then (match compL vs1 g1 t1 f es acc (s3.wipe vs1) with
          | .ok acc' s4 => compL2 vs vs1 g t fi1 g1 t1 f ds acc' (s4.wipe vs)
          | _ => .stuck) else .stuck
        | _ => .stuck) else compL2 vs vs1 g t fi1 g1 t1 f ds acc (s2.wipe vs)
      | _ => .stuck
section
variable {X : Cx} {W : WX} {va : VA} {a b c e elt tg iter tg1 iter1 : Expr} {ifs ifs1 : List Expr} {pos : Pos} {fi fi1 : S → R (List D)} {g g1 : D → S → Option S} {t t1 : S → R Bool} {f : S → R D} {scope : Scope} {own : List (Str × Nat)} {vs vs1 : List Nat}
/-- the turns of an inner clause -/
theorem lc_turns {J : It} {ds : List D} {s1 s' : S} {σ : St} {HP1 H1 : Hp} {D0 : Addr} {acc0 : List V} {ys0 ys' : List D} {Nx : Hp → Prop}
    (hD0 : H1 D0 = some (.lst acc0)) (nP0 : HP1 D0 = none) (rl : Rel X.K va s1 σ HP1 (del H1 D0)) (cl0 : Clean vs s1) (dv0 : DvA X.K HP1 acc0 ys0) (hz : ys0.length + ds.length ≤ sizeLine) (hw : Walks X.K J ds HP1)
    (hc : compL vs g t f ds ys0 s1 = .ok ys' s')
    (fin : ∀ H' HP' acc', H' D0 = some (.lst acc') → HP' D0 = none → Stp X.K va s1 σ HP1 (del H1 D0) s' σ HP' (del H' D0) → DvA X.K HP' acc' ys' → ys'.length ≤ sizeLine → Nx H') :
    ∃ W1 : Nat → Nat → Hp → Prop, (∃ m, W1 0 m H1) ∧ ∀ j k H, W1 j k H →
      (J.stop j H ∧ Nx H) ∨ (J.go j H ∧ ∃ Nx1 : Hp → Prop, (∀ H', Nx1 H' → ∃ k', k' < k ∧ W1 (j + 1) k' H') ∧ ∀ x H', J.yld j H x H' → tDGw X vs g x (wipe σ vs) H' fun σ3 H5 => wipe σ3 vs = wipe σ vs ∧ tDT X WF t σ3 H5 fun b H6 =>
        if b = true then tDE X WF f σ3 H6 fun y H7 => ∃ acc, H7 D0 = some (.lst acc) ∧ acc.length < sizeLine ∧ Nx1 (upd H7 D0 (.lst (acc ++ [y]))) else Nx1 H6) := by
  refine ⟨fun i m H => ∃ s HP acc ys, m = ds.length - i ∧ i ≤ ds.length ∧ H D0 = some (.lst acc) ∧ ys.length ≤ ys0.length + i ∧ HP D0 = none ∧ Stp X.K va s1 σ HP1 (del H1 D0) s σ HP (del H D0) ∧ Clean vs s ∧ DvA X.K HP acc ys ∧ compL vs g t f (ds.drop i) ys s = .ok ys' s',
    ⟨ds.length, s1, HP1, acc0, ys0, by simp, Nat.zero_le _, hD0, Nat.le_refl _, nP0, Stp.refl rl, cl0, dv0, hc⟩, ?_⟩
  rintro i m H2 ⟨s2, HP2, acc, ys, rfl, hle, hD, hy, nP, st2, cl, dv, p2⟩
  have r2 := st2.rel
  have r2' := r2.more
  have no := r2.nown
  obtain ⟨w1, w2⟩ := hw i HP2 H2 st2.same r2'.sub
  by_cases hlt : i < ds.length
  · have hd : ds[i]? = some ds[i] := List.getElem?_eq_getElem hlt
    obtain ⟨hgo, hyl⟩ := w1 _ hd
    rw [List.drop_eq_getElem_cons hlt] at p2
    unfold compL at p2
    refine .inr ⟨hgo, fun H' => ∃ s HP acc ys, H' D0 = some (.lst acc) ∧ ys.length ≤ ys0.length + (i + 1) ∧ HP D0 = none ∧ Stp X.K va s1 σ HP1 (del H1 D0) s σ HP (del H' D0) ∧ Clean vs s ∧ DvA X.K HP acc ys ∧ compL vs g t f (ds.drop (i + 1)) ys s = .ok ys' s',
      fun H' ⟨s5, HP', acc', ys5, q⟩ => ⟨ds.length - (i + 1), by omega, s5, HP', acc', ys5, rfl, hlt, q⟩, fun x H' y => ?_⟩
    obtain ⟨HP', dx, stp⟩ := hyl x H' y
    have rw' : Rel X.K va s2 (wipe σ vs) HP2 H2 := r2'.to cl wipe_wipe.symm
    have st3 := stp va s2 (wipe σ vs) rw'
    cases eg : g ds[i] s2 with
    | none => rw [eg] at p2; cases p2
    | some s4 =>
      rw [eg] at p2
      dsimp only at p2
      refine ⟨va, s2, HP', _, s4, st3.rel, dx, eg, fun σ4 st4 hw4 => ⟨hw4.trans wipe_wipe, ?_⟩⟩
      have e4 : wipe σ4 vs = wipe σ vs := hw4.trans wipe_wipe
      have st34 := st3.trans st4
      refine ⟨va, s4, HP', st4.rel, ?_⟩
      cases et : t s4 with
      | stuck => rw [et] at p2; cases p2
      | exc n p s' => rw [et] at p2; cases p2
      | ok k s5 =>
        rw [et] at p2
        dsimp only at p2
        intro H5 HP5 st5
        have st35 := st34.trans st5
        cases k with
        | false =>
          rw [if_neg Bool.false_ne_true] at p2 ⊢
          have so := st35.out cl e4
          obtain ⟨y1, y2, y3⟩ := so.del no nP hD
          exact ⟨s5.wipe vs, HP5, acc, ys, y1, by omega, y2, st2.trans y3, clean_wipe, DvA.mono so.same ys acc dv, p2⟩
        | true =>
          rw [if_pos rfl] at p2 ⊢
          refine ⟨va, s5, HP5, st5.rel, ?_⟩
          cases ef : f s5 with
          | stuck => rw [ef] at p2; cases p2
          | exc n p s' => rw [ef] at p2; cases p2
          | ok d s6 =>
            rw [ef] at p2
            dsimp only at p2
            intro v6 H6 HP6 st6 dv6
            have so := (st35.trans st6).out cl e4
            obtain ⟨y1, y2, y3⟩ := so.del no nP hD
            have dacc := DvA.mono so.same ys acc dv
            refine ⟨acc, y1, by rw [dacc.length]; omega, s6.wipe vs, HP6, acc ++ [v6], ys ++ [d], upd_same, by rw [List.length_append, List.length_singleton]; omega, y2, by rw [del_upd']; exact st2.trans y3, clean_wipe, dacc.append (.cons dv6 .nil), p2⟩
  · have e : ds.drop i = [] := List.drop_eq_nil_of_le (by omega)
    rw [e] at p2
    unfold compL at p2
    cases p2
    exact .inl ⟨w2 (by omega), fin H2 HP2 acc hD nP st2 dv (by omega)⟩
theorem lc2_read {σ : St} {H : Hp} {Q : VK} (h : tDE X W (fun s => (fi s).bind fun ds s => (compL2 vs vs1 g t fi1 g1 t1 f ds [] (s.wipe vs)).bind fun ys s => .ok (.lst ys) s) σ H Q) :
    tLc2 (tDI X W fi) (tDGw X vs g) (tDT X WF t) (tDI X WF fi1) (tDGw X vs1 g1) (tDT X WF t1) (tDE X WF f) vs vs1 σ H Q := by
  obtain ⟨va, s, HP, rl, h⟩ := h
  dsimp only at h
  refine ⟨va, s, HP, rl, ?_⟩
  cases ei : fi s with
  | stuck => rw [ei] at h; exact h
  | exc n p s' => rw [ei] at h; exact h
  | ok ds s1 =>
    rw [ei] at h
    intro J H1 HP1 st1 hz hw D0 nD
    have h1 : PoE X W va (s1.wipe vs) σ HP1 H1 ((compL2 vs vs1 g t fi1 g1 t1 f ds [] (s1.wipe vs)).bind fun ys s => .ok (.lst ys) s) Q := PoE.from (st1.trans st1.rel.wst) h
    refine ⟨fun i m H => ∃ s HP acc ys, m = ds.length - i ∧ i ≤ ds.length ∧ H D0 = some (.lst acc) ∧ ys.length ≤ sizeLine ∧ HP D0 = none ∧ Rel X.K va s σ HP (del H D0) ∧ Same HP1 HP ∧ Clean vs s ∧ DvA X.K HP acc ys ∧
      PoE X W va s σ HP (del H D0) ((compL2 vs vs1 g t fi1 g1 t1 f (ds.drop i) ys s).bind fun ys s => .ok (.lst ys) s) Q,
      ⟨ds.length, s1.wipe vs, HP1, [], [], by simp, Nat.zero_le _, upd_same, Nat.zero_le _, st1.rel.sub.free nD, by rw [del_upd nD]; exact st1.rel.wiped, Same.refl _, clean_wipe, .nil, by rw [del_upd nD]; exact h1⟩, ?_⟩
    rintro i m H2 ⟨s2, HP2, acc, ys, rfl, hle, hD, hy, nP, r2, sm, cl, dv, p2⟩
    have r2' := r2.more
    have no := r2.nown
    obtain ⟨w1, w2⟩ := hw i HP2 H2 sm r2'.sub
    by_cases hlt : i < ds.length
    · have hd : ds[i]? = some ds[i] := List.getElem?_eq_getElem hlt
      obtain ⟨hgo, hyl⟩ := w1 _ hd
      rw [List.drop_eq_getElem_cons hlt] at p2
      unfold compL2 at p2
      refine .inr ⟨hgo, fun H' => ∃ s HP acc ys, H' D0 = some (.lst acc) ∧ ys.length ≤ sizeLine ∧ HP D0 = none ∧ Rel X.K va s σ HP (del H' D0) ∧ Same HP1 HP ∧ Clean vs s ∧ DvA X.K HP acc ys ∧
        PoE X W va s σ HP (del H' D0) ((compL2 vs vs1 g t fi1 g1 t1 f (ds.drop (i + 1)) ys s).bind fun ys s => .ok (.lst ys) s) Q,
        fun H' ⟨s', HP', acc', ys', q⟩ => ⟨ds.length - (i + 1), by omega, s', HP', acc', ys', rfl, hlt, q⟩, fun x H' y => ?_⟩
      obtain ⟨HP', dx, stp⟩ := hyl x H' y
      have rw' : Rel X.K va s2 (wipe σ vs) HP2 H2 := r2'.to cl wipe_wipe.symm
      have st3 := stp va s2 (wipe σ vs) rw'
      cases eg : g ds[i] s2 with
      | none => rw [eg] at p2; exact p2.elim
      | some s4 =>
        rw [eg] at p2
        dsimp only at p2
        refine ⟨va, s2, HP', _, s4, st3.rel, dx, eg, fun σ4 st4 hw4 => ⟨hw4.trans wipe_wipe, ?_⟩⟩
        have e4 : wipe σ4 vs = wipe σ vs := hw4.trans wipe_wipe
        have st34 := st3.trans st4
        refine ⟨va, s4, HP', st4.rel, ?_⟩
        cases et : t s4 with
        | stuck => rw [et] at p2; exact p2
        | exc n p s' => rw [et] at p2; exact p2.elim
        | ok k s5 =>
          rw [et] at p2
          dsimp only at p2
          intro H5 HP5 st5
          have st35 := st34.trans st5
          cases k with
          | false =>
            rw [if_neg Bool.false_ne_true] at p2 ⊢
            have so := st35.out cl e4
            obtain ⟨y1, y2, y3⟩ := so.del no nP hD
            exact ⟨s5.wipe vs, HP5, acc, ys, y1, hy, y2, y3.rel, sm.trans so.same, clean_wipe, DvA.mono so.same ys acc dv, PoE.from y3 p2⟩
          | true =>
            rw [if_pos rfl] at p2 ⊢
            refine ⟨va, s5, HP5, st5.rel, ?_⟩
            cases e1 : fi1 s5 with
            | stuck => rw [e1] at p2; exact p2
            | exc n p s' => rw [e1] at p2; exact p2.elim
            | ok es s6 =>
              rw [e1] at p2
              dsimp only at p2
              split at p2
              case isFalse => exact p2.elim
              case isTrue hz1 =>
                split at p2
                case h_2 => exact p2.elim
                case h_1 acc2 s7 ec =>
                  intro J1 H6 HP6 st6 hz6 hw6
                  have st36 := (st35.trans st6)
                  have so := st36.out cl e4
                  obtain ⟨y1, y2, _⟩ := so.del no nP hD
                  have no4 : ¬ Owns va s6 σ4 D0 := (st36.keep D0 _ hD nL (fun z => no (owns_to cl wipe_wipe z))).2.1
                  have r6 : Rel X.K va s6 σ4 HP6 (del H6 D0) := st6.rel.less no4 y2 y1
                  refine lc_turns y1 y2 r6.wiped clean_wipe (DvA.mono so.same ys acc dv) hz1 hw6 ec fun H7 HP7 acc7 h7 n7 st7 dv7 hz7 => ?_
                  have st2d : Stp X.K va s2 (wipe σ vs) HP2 (del H2 D0) s6 σ4 HP6 (del H6 D0) := (st36.del (fun z => no (owns_to cl wipe_wipe z)) nP hD).2.2
                  have stall := (st2d.trans (r6.wst (vs := vs1))).trans st7
                  have so2 := stall.out cl e4
                  exact ⟨s7.wipe vs, HP7, acc7, acc2, h7, hz7, n7, so2.rel, sm.trans so2.same, clean_wipe, dv7, PoE.from so2 p2⟩
    · have e : ds.drop i = [] := List.drop_eq_nil_of_le (by omega)
      rw [e] at p2
      refine .inl ⟨w2 (by omega), ?_⟩
      have q := fin_lst (p2 : PoE X W va s2 σ HP2 (del H2 D0) (.ok (.lst ys) s2) Q) r2 dv hy D0 del_same
      rw [upd_del hD] at q
      exact q
/-- y = [.. for .. for ..] -/
theorem ds_setlc2 (vs vs1 : List Nat) (i : Nat) {y : Str} {py spos : Pos} (hc : X.calm = true) (hN : X.N.Nodup) (hi : DI X W tg iter fi) (ok : BlkOk X.N X.env.scope scope own) (hv1 : ∀ i ∈ vs1, i ∈ own.map (·.2))
    (hg : ∀ (s : Shared) (H : Hp) (C : Addr) (cl : List (Str × Addr)) (fp : List Addr), DGw (X.blk s H scope (compEnvC scope cl C X.env) fp) vs tg g) (ht : ∀ (s : Shared) (H : Hp) (C : Addr) (cl : List (Str × Addr)) (fp : List Addr), DTs (X.blk s H scope (compEnvC scope cl C X.env) fp) WF ifs t)
    (hi1 : ∀ (s : Shared) (H : Hp) (C : Addr) (cl : List (Str × Addr)) (fp : List Addr), DI (X.blk s H scope (compEnvC scope cl C X.env) fp) WF tg1 iter1 fi1)
    (hg1 : ∀ (s : Shared) (H : Hp) (C : Addr) (cl : List (Str × Addr)) (fp : List Addr), DGw (X.blk s H scope (compEnvC scope cl C X.env) fp) vs1 tg1 g1) (ht1 : ∀ (s : Shared) (H : Hp) (C : Addr) (cl : List (Str × Addr)) (fp : List Addr), DTs (X.blk s H scope (compEnvC scope cl C X.env) fp) WF ifs1 t1)
    (he : ∀ (s : Shared) (H : Hp) (C : Addr) (cl : List (Str × Addr)) (fp : List Addr), DE (X.blk s H scope (compEnvC scope cl C X.env) fp) WF elt f)
    (hsw : swapsWith (.ListComp elt [⟨tg, iter, ifs, 0⟩, ⟨tg1, iter1, ifs1, 0⟩] scope pos) (some (.Name y py)) spos.line X.env = pure true) (hy : X.N[i]? = some y := by rfl) (hyl : X.env.scope.names.lookup y = some .local := by rfl)
    (hs : ∀ x, foldedSetIterable iter X.env x = pure x := by intro _; rfl) (hs1 : ∀ env x, foldedSetIterable iter1 env x = pure x := by intro _ _; rfl) (hv : own.map (·.2) = vs := by rfl) :
    DS X W (.Assign [.Name y py] (.ListComp elt [⟨tg, iter, ifs, 0⟩, ⟨tg1, iter1, ifs1, 0⟩] scope pos) spos) (fun s => ((fi s).bind fun ds s => (compL2 vs vs1 g t fi1 g1 t1 f ds [] (s.wipe vs)).bind fun ys s => .ok (.lst ys) s).thn fun d s => .next (s.put i (.val d))) := by
  subst hv
  refine ps_imp (ps_setLc2 (wi := tDI X W fi) (wi1 := tDI X WF fi1) (g1 := tDGw X vs1 g1) (tt1 := tDT X WF t1) (g := tDGw X (own.map fun q : Str × Nat => q.2) g) (tt := tDT X WF t) (te := tDE X WF f) hc hN hy hyl hsw hi ok hv1 hg ht hi1 hg1 ht1 he hs hs1) fun D σ H h => ?_
  obtain ⟨va, s, HP, rl, h⟩ := h
  exact lc2_read (bindES rl h fun d s1 v H1 HP1 st1 d1 h1 => h1 _ H1 HP1 (st1.rel.put i d1))
end
end DL

namespace DL
open PySem PySem.Spec PyProof.Rows L2
section
variable {X : Cx} {W : WX} {a : Expr} {fa : S → R D} {pos p0 : Pos}
/-- x, y = a, []: y a list for its slot alone -/
theorem ds_parO (i j : Nat) {x y : Str} {px py pt : Pos} {kt k2 pt2} (hc : X.calm = true) (hN : X.N.Nodup) (ha : DE X W a fa) (hi : X.N[i]? = some x := by rfl) (hj : X.N[j]? = some y := by rfl) (hij : i ≠ j := by decide)
    (hx : X.env.scope.names.lookup x = some .local := by rfl) (hy : X.env.scope.names.lookup y = some .local := by rfl)
    (hw : swappedStores [.Tuple [.Name x px, .Name y py] kt pt] (.Tuple [a, .List [] p0] k2 pt2) X.env = pure (some [x, y]) := by rfl)
    (hs : swapsWithSole [.Tuple [.Name x px, .Name y py] kt pt] (.Tuple [a, .List [] p0] k2 pt2) pos.line X.env = pure false := by rfl)
    (hst : starEach [a, .List [] p0] X.env = (false, eval a X.env) :: starEach [.List [] p0] X.env := by rfl) :
    DS X W (.Assign [.Tuple [.Name x px, .Name y py] kt pt] (.Tuple [a, .List [] p0] k2 pt2) pos) (fun s => (fa s).thn fun d s => .next ((s.put i (.val d)).put j (.own []))) := by
  refine ps_imp (ps_par hc hN hi hj hij hx hy (pa_cons ha (pa_cons (pe_lst pa_nil) pa_nil) hst) hw hs) fun D σ H ⟨va, s, HP, rl, h⟩ => ?_
  refine bindES rl h fun d s1 v H1 HP1 st1 d1 h1 => ?_
  refine ⟨Nat.zero_le _, fun p hp => ⟨v, .ref p, rfl, ?_⟩⟩
  have r1 := st1.rel.put i d1
  have r2 := r1.rel.putOwn j (ds := []) (vs := []) hp (Nat.zero_le _) .nil
  exact h1 _ _ HP1 (r1.trans r2)
end
end DL

namespace DL
open PySem PySem.Spec PyProof.Rows L2 LamX
/-! ## lambdas as values -/
section
variable {K : PySem.W.Frag} {va : VA} {s : S} {σ : St} {HP H : Hp}
/-- what is known of c stays -/
theorem Rel.note (r : Rel K va s σ HP H) {c : Addr} {φ : Heap → Prop} (hc : H c = some (.ext φ)) : Stp K va s σ HP H s σ (upd HP c (.ext φ)) H := by
  have nl : ∀ b vs, H b = some (.lst vs) → b ≠ c := fun b vs e z => by rw [z, hc] at e; cases e
  have sm : Same HP (upd HP c (.ext φ)) := fun b x e => by
    by_cases h : b = c
    · subst h
      rw [upd_same, ← hc]
      exact (r.sub _ _ e)
    · rw [upd_ne h]; exact e
  have ko : Obk K va s σ HP H s σ (upd HP c (.ext φ)) H := r.ob.step sm (fun b dx fs q n => ⟨q, by
    have ne : b ≠ c := fun z => by rw [z, hc] at q; cases q
    rw [upd_ne ne]; exact n⟩) fun i n p q => ⟨q, rfl⟩
  refine ⟨⟨r.len, fun b x e => ?_, fun i d e => ?_, fun i xs e => ?_, r.vis, fun xs e => ?_, r.dis, r.dvi, ⟨r.tab.t, noTb_upd r.tab.n (fun _ z => nomatch z)⟩, ko.ob⟩, sm, fun b x e nt nb => ⟨e, nb, fun z => ?_⟩, Iff.rfl, ko.kob⟩
  · by_cases h : b = c
    · subst h; rw [upd_same] at e; cases e; exact hc
    · rw [upd_ne h] at e; exact r.sub b x e
  · obtain ⟨v, h1, h2⟩ := r.val i d e
    exact ⟨v, h1, Dv.mono sm d v h2⟩
  · obtain ⟨a, vs, h1, h2, h3, hz, h4⟩ := r.own i xs e
    exact ⟨a, vs, h1, by rw [upd_ne (nl a vs h3)]; exact h2, h3, hz, DvA.mono sm xs vs h4⟩
  · obtain ⟨h1, vs, h2, hz, h3⟩ := r.vst xs e
    exact ⟨by rw [upd_ne (nl _ vs h2)]; exact h1, vs, h2, hz, DvA.mono sm xs vs h3⟩
  · have ne : b ≠ c := fun w => by
      rw [w, hc] at e
      cases e
      exact nt.2.1 φ rfl
    rw [upd_ne ne]; exact z
/-- a new object that nobody tells of -/
theorem Rel.beside (r : Rel K va s σ HP H) {p : Addr} {o : HO} (n : H p = none) : Stp K va s σ HP H s σ HP (upd H p o) := by
  have nx : ∀ b x, H b = some x → upd H p o b = some x := fun b x e => by rw [upd_ne (ne_of_none e n)]; exact e
  have ko : Obk K va s σ HP H s σ HP (upd H p o) := r.ob.step (Same.refl _) (fun b dx fs q n => ⟨nx _ _ q, n⟩) fun i n p q => ⟨q, rfl⟩
  refine ⟨⟨r.len, fun b x e => nx b x (r.sub b x e), r.val, fun i xs e => ?_, r.vis, fun xs e => ?_, r.dis, r.dvi, ⟨r.tab.t.ext nx, r.tab.n⟩, ko.ob⟩, Same.refl _, fun b x e _ nb => ⟨nx b x e, nb, fun z => z⟩, Iff.rfl, ko.kob⟩
  · obtain ⟨a, vs, h1, h2, h3, h4⟩ := r.own i xs e
    exact ⟨a, vs, h1, h2, nx _ _ h3, h4⟩
  · obtain ⟨h1, vs, h2, h3⟩ := r.vst xs e
    exact ⟨h1, vs, nx _ _ h2, h3⟩
theorem Rel.beside_own (r : Rel K va s σ HP H) {p : Addr} (n : H p = none) : ¬ Owns va s σ p := fun z => by
  rcases z with ⟨i, xs, q1, q2⟩ | ⟨nv, e⟩
  · obtain ⟨a, vs, h1, h2, h3, h4⟩ := r.own i xs q1
    rw [q2] at h1
    injection h1 with h1; injection h1 with h1; injection h1 with h1
    rw [← h1, n] at h3; cases h3
  · cases hv : s.via with
    | none => exact nv hv
    | some xs =>
      obtain ⟨h1, vs, h2, h3⟩ := r.vst xs hv
      rw [← e, n] at h2; cases h2
end
section
variable {X : Cx} {pins : List (Addr × Obj)} {σ : L2.St} {H : Hp} {s : Shared}
/-- a lambda is made and known from now on -/
theorem lam_make3 {T : List (Addr × Str)} {c P : Addr} {params : Arguments} {body : Expr} {scope : Scope} {pos : Pos} {E : Value → Shared → Prop} {Q : Value → Shared → Prop} (I : Inv X pins σ H s) (TB : TabB X.base X.mg c P) (hcode : X.env.code = .ref c)
    (hm : (P, X.env.qual ++ "<lambda>") ∈ T) (hu : ∀ p ∈ T, p.1 = P → p.2 = X.env.qual ++ "<lambda>") (hT : Tabs T H) (hdef : defaultsOf params X.env = ([], [])) (hfree : ∀ y ∈ scope.names, y.2 = .free → ∃ c, X.env.cells.lookup y.1 = some c)
    (go : ∀ (f cc : Addr) (G : Hp) (s2 : Shared), ExtN H G → Tabs T G → G f = none → G cc = some (CodeO cc (X.env.qual ++ "<lambda>")) →
      Inv X pins σ (upd G f (LamO f cc (X.env.qual ++ "<lambda>") ⟨params, body, scope⟩ X.env.cells)) s2 → Q (.ref f) s2) :
    wpAny (model X.prog X.w) X.A (eval (.Lambda params body scope pos) X.env) Q E s := by
  obtain ⟨ps, hP, ht, ha⟩ := hT _ hm
  refine PySem.W.kla_eval hdef ?_
  have bP := TB.bm.keeps I.bk
  have hP2 : s.heap.get? P = some { cls := .none, data := .fields ps } := I.hok P _ hP
  have new : ∀ {h' : Heap} {cc : Addr} {pm ctv : Value} {G : Hp}, ObjOk X.prog X.w G (h'.push (PySem.W.kla_obj "<lambda>" (X.env.qual ++ "<lambda>") params body scope (cloFrom X.env.cells scope.names []) pm cc ctv)) h'.objs.size (LamO h'.objs.size cc (X.env.qual ++ "<lambda>") ⟨params, body, scope⟩ X.env.cells) :=
    fun {h' cc pm ctv G} => ⟨⟨pm, ctv, Heap.get?_push_size _ rfl⟩, ⟨_, Heap.get?_push_size _ rfl⟩, fun h1 h2 ⟨pm, ctv, e⟩ st => ⟨pm, ctv, st _ e⟩⟩
  cases hc : codeAmong pos ps.toList with
  | none =>
    refine PySem.W.kla_makeFunction (mg := X.mg) (c := c) (P := P) (ps := ps) (closure_ok hfree) I.ok.glob (I.mod.glob.keeps I.bk) hcode (TB.code.keeps I.bk) hP2 ht hc TB.gP bP fun cc ctv h' tk hx hge hlt hrec htb => ?_
    obtain ⟨c2, oc, vs, t, e2, hoc, hd, hv⟩ := hrec
    cases e2
    have nC : H cc = none := I.hok.fresh hge
    have I1 := inv_table (t' := tk) (more := #[rawInt pos.line, rawInt pos.col, .ref cc]) (h' := h') I hP hx htb hge ⟨oc, vs, t, hoc, hd, hv⟩
    have nF : upd (upd H P (.tbl (ps ++ #[rawInt pos.line, rawInt pos.col, .ref cc]))) cc (CodeO cc (X.env.qual ++ "<lambda>")) h'.objs.size = none := I1.hok.fresh (Nat.le_refl _)
    have grow : ExtN H (upd (upd H P (.tbl (ps ++ #[rawInt pos.line, rawInt pos.col, .ref cc]))) cc (CodeO cc (X.env.qual ++ "<lambda>"))) := fun b o e n => by
      rw [upd_ne (ne_of_none e nC), upd_ne (fun z => n ps (Option.some.inj (e.symm.trans (by rw [z]; exact hP))))]
      exact e
    refine go h'.objs.size cc _ _ grow (fun p hp => ?_) nF upd_same (I1.laid (t' := tk) (fun b u e => Heap.get?_push_of_some _ e) (Nat.le_refl _) new)
    by_cases hb : p.1 = P
    · rw [hu p hp hb, hb]
      have eL : (ps ++ #[rawInt pos.line, rawInt pos.col, .ref cc]).toList = ps.toList ++ [rawInt pos.line, rawInt pos.col, .ref cc] := by simp
      refine ⟨_, by rw [upd_ne (ne_of_none hP nC), upd_same], by rw [eL]; exact PySem.TriplesOk_snoc _ _ _ _ ht, fun p2 cv hcv => ?_⟩
      rw [eL] at hcv
      rcases among_app _ ht hcv with z | z
      · obtain ⟨c0, e1, e2⟩ := ha p2 cv z
        exact ⟨c0, e1, grow _ _ e2 codeO_ne⟩
      · exact ⟨cc, z, upd_same⟩
    · obtain ⟨qs, a1, a2, a3⟩ := hT p hp
      refine ⟨qs, by rw [upd_ne (ne_of_none a1 nC), upd_ne hb]; exact a1, a2, fun p2 cv hcv => ?_⟩
      obtain ⟨c0, e1, e2⟩ := a3 p2 cv hcv
      exact ⟨c0, e1, grow _ _ e2 codeO_ne⟩
  | some cv =>
    obtain ⟨cc, e, hco⟩ := ha pos cv hc
    subst e
    refine PySem.W.kla_makeFunctionHit (mg := X.mg) (c := c) (P := P) (ps := ps) (closure_ok hfree) I.ok.glob (I.mod.glob.keeps I.bk) hcode (TB.code.keeps I.bk) hP2 ht hc bP fun ctv h' tk hx hsz => ?_
    refine go h'.objs.size cc H _ (ExtN.refl H) hT (I.hok.fresh hsz) hco (I.laid (t' := tk) (fun b u e => Heap.get?_push_of_some _ (hx b u e)) hsz new)
end
/-- lambda: body, as a value -/
theorem de_lamv {X : Cx} {W : WX} {c Pt : Addr} {params : Arguments} {body : Expr} {scope : Scope} {pos : Pos} (TB : TabB X.base X.mg c Pt) (hcode : X.env.code = .ref c)
    (hmT : (Pt, X.env.qual ++ "<lambda>") ∈ lamT) (hu : ∀ p ∈ lamT, p.1 = Pt → p.2 = X.env.qual ++ "<lambda>") (L : LamS X.env.scope scope) (nodef : defaultsOf params X.env = ([], [])) :
    DE X W (.Lambda params body scope pos) (fun s => .ok (.lam (X.env.qual ++ "<lambda>") ⟨params, body, scope⟩ X.env.cells) s) := by
  constructor
  rintro pins s σ H Q I ⟨va, st, HP, rl, h⟩
  refine lam_make3 I TB hcode hmT hu rl.tab.t nodef (L.has I.ok) fun f cc G s2 grow tabs nF hcc J => ?_
  have s1 := rl.grow grow tabs
  have s2 := s1.rel.note hcc
  have s3 := s2.rel.laid (o := LamO f cc (X.env.qual ++ "<lambda>") ⟨params, body, scope⟩ X.env.cells) nF (fun _ z => by unfold LamO at z; cases z)
  have nPf : f ≠ cc := fun z => by rw [z, hcc] at nF; cases nF
  exact ⟨.ref f, _, J, rfl, h _ _ _ (s1.trans (s2.trans s3)) (.lam upd_same (by rw [upd_ne (Ne.symm nPf), upd_same]; rfl))⟩
/-! ## a greater base: all that is not told of -/
def bigB (h : Heap) (H : Hp) (outs : List Env) : Heap := PySem.W.hideAll h (trk h H ++ frs outs)
theorem bigB_of {h : Heap} {H : Hp} {outs : List Env} {b : Addr} {o : Obj} (e : (bigB h H outs).get? b = some o) : h.get? b = some o ∧ H b = none := by
  have e' : h.get? b = some o := PySem.W.of_hideAll _ e
  refine ⟨e', ?_⟩
  cases q : H b with
  | none => rfl
  | some x =>
    have hm : b ∈ trk h H := List.mem_filter.mpr ⟨List.mem_range.mpr (Heap.lt_size e'), by simp [q]⟩
    have z : (bigB h H outs).get? b = none := PySem.W.hideAll_none _ (List.mem_append_left _ hm)
    rw [z] at e; cases e
theorem bigB_get {h : Heap} {H : Hp} {outs : List Env} {b : Addr} {o : Obj} (e : h.get? b = some o) (n : H b = none) (nf : b ∉ frs outs) : (bigB h H outs).get? b = some o :=
  PySem.W.hideAll_get _ e fun hm => by
    rcases List.mem_append.mp hm with z | z
    · have q := (List.mem_filter.mp z).2
      rw [n] at q; simp at q
    · exact nf z
theorem bigB_fr {h : Heap} {H : Hp} {outs : List Env} {b : Addr} (m : b ∈ frs outs) : (bigB h H outs).get? b = none := PySem.W.hideAll_none _ (List.mem_append_right _ m)
theorem ff_re {h b b2 : Heap} : ∀ {l : List Env}, h.FunFrames b l → (∀ a ∈ frs l, b2.get? a = none) → h.FunFrames b2 l
  | [], _, _ => trivial
  | e :: r, hf, n => by
    obtain ⟨h1, ⟨L, o, f1, f2, f3, f4⟩, h2⟩ := hf
    have m : ∀ a ∈ frs r, a ∈ frs (e :: r) := fun a z => by unfold frs; rw [List.filterMap_cons, f1]; exact List.mem_cons_of_mem _ z
    exact ⟨h1, ⟨L, o, f1, n L (by unfold frs; rw [List.filterMap_cons, f1]; exact List.mem_cons_self), f3, f4⟩, ff_re h2 fun a z => n a (m a z)⟩
section
variable {P : Program} {w : World} {K : PySem.W.Frag} {mg : Str → Option Value} {base b2 : Heap} {A : Around} {outer : List Env} {s : Shared} {H : Hp}
theorem Env0.into (e : Env0 P w K mg base A outer s H) : ∀ b o, base.get? b = some o → (bigB s.heap H outer).get? b = some o := fun b o q =>
  bigB_get (e.bs b o q).1 (e.bs b o q).2 fun m => by
    have := (e.funs.mem m).1
    rw [q] at this; cases this
theorem Mod.big (m : Mod K mg base) (k : ∀ b o, base.get? b = some o → b2.get? b = some o) : Mod K mg b2 :=
  ⟨m.kin.keeps k, m.glob.keeps k, let ⟨mb, h1, h2⟩ := m.blt; ⟨mb, h1.keeps k, h2⟩, m.nolimit.keeps k⟩
theorem Env0.big (e : Env0 P w K mg base A outer s H) : Env0 P w K mg (bigB s.heap H outer) A outer s H :=
  ⟨e.frames, Mod.big e.mod (Env0.into e), fun b o q => bigB_of q, Nat.le_of_eq (PySem.W.hideAll_size _ _), ff_re e.funs fun a m => bigB_fr m, e.frf, e.hok, e.bare⟩
theorem Env0.less (e : Env0 P w K mg b2 A outer s H) (m : Mod K mg base) (k : ∀ b o, base.get? b = some o → b2.get? b = some o) (z : base.objs.size ≤ b2.objs.size) : Env0 P w K mg base A outer s H :=
  ⟨e.frames, m, fun b o q => e.bs b o (k b o q), Nat.le_trans z e.bsz, ff_re e.funs (fun a hm => by
    cases q : base.get? a with
    | none => rfl
    | some o =>
      have := (e.funs.mem hm).1
      rw [k a o q] at this
      cases this), e.frf, e.hok, e.bare⟩
end
/-! ## the frame that a lambda reads -/
structure Rdy (X : Cx) (σ : L2.St) (b2 : Heap) : Prop where
  ok : X.Ok
  sub : ∀ b o, X.base.get? b = some o → b2.get? b = some o
  sz : X.base.objs.size ≤ b2.objs.size
  len : σ.length = X.N.length
  cell : ∀ x c, X.env.cells.lookup x = some c → ∃ v, b2.IsCell c v
  loc : ∀ (i : Nat) (x : Str) (v : V), X.N[i]? = some x → σ[i]? = some (some v) → (X.env.scope.names.lookup x = some .cell ∨ X.env.scope.names.lookup x = some .free) → ∃ u, L2.RelV v u ∧ ∃ c, X.env.cells.lookup x = some c ∧ b2.IsCell c (some u)
theorem rdy_of {X : Cx} {pins : List (Addr × Obj)} {σ : L2.St} {H : Hp} {s : Shared} {outs : List Env} (I : Inv X pins σ H s) (hfn : ∀ x, X.fn x = true) (ho : ∀ b ∈ frs outs, b ∈ X.env.locals :: X.fs) (hs : ∀ b o, X.base.get? b = some o → (bigB s.heap H outs).get? b = some o) :
    Rdy X σ (bigB s.heap H outs) := by
  have nf : ∀ x c, X.env.cells.lookup x = some c → c ∉ frs outs := fun x c e m => by
    rcases List.mem_cons.mp (ho c m) with z | z
    · exact I.cne x c e z
    · obtain ⟨_, o, h1, _⟩ := I.ok.funs.mem z
      exact absurd (Nat.lt_of_lt_of_le (Heap.lt_size h1) (I.ok.cab x c (hfn x) e)) (Nat.lt_irrefl _)
  have up : ∀ x c v, X.env.cells.lookup x = some c → s.heap.IsCell c v → (bigB s.heap H outs).IsCell c v := fun x c v e ⟨o, h1, h2⟩ => ⟨o, bigB_get h1 (I.freeC x c e) (nf x c e), h2⟩
  refine ⟨I.ok, hs, ?_, I.len, fun x c e => ?_, fun i x v e1 e2 e3 => ?_⟩
  · have := Nat.le_trans I.ok.bsz I.sz
    unfold bigB
    rw [PySem.W.hideAll_size]
    exact this
  · obtain ⟨v, hv⟩ := I.cell x c e
    exact ⟨v, up x c v e hv⟩
  · obtain ⟨m, hn, hl⟩ := I.loc
    obtain ⟨u, r, q⟩ := hl i x v e1 e2 (.inr e3)
    refine ⟨u, r, ?_⟩
    rcases q with ⟨k, _⟩ | ⟨_, c, hc, hv⟩
    · have k : X.env.scope.names.lookup x = some .local := k
      rcases e3 with e3 | e3 <;> rw [e3] at k <;> cases k
    · exact ⟨c, hc, up x c _ hc hv⟩
section
variable {X : Cx} {σ : L2.St} {HZ : Hp} {b2 : Heap} {s1 : Shared}
theorem lam_start3 {A : Around} {outer : List Env} {E : XK} {scope : Scope} {f cc : Addr} {h1 : Heap} {tk : Nat} (R : Rdy X σ b2) (L : LamS X.env.scope scope) (e0 : Env0 X.prog X.w X.K X.mg b2 A outer s1 HZ) (hd : A.handled = none)
    (ns : h1.Ns s1.heap.objs.size fun y => ([] : List (Str × Value)).reverse.lookup y) (kp : ∀ b o, s1.heap.get? b = some o → h1.get? b = some o) :
    Inv (lamCx X A outer s1 HZ E scope f cc) [] σ HZ { s1 with heap := h1, toks := tk } := by
  have hfree := L.has R.ok
  have from_ : ∀ {y c}, (cloFrom X.env.cells scope.names []).lookup y = some c → X.env.cells.lookup y = some c := fun {y c} e => by
    rcases cloFrom_mem (PySem.mem_of_lookup e) with z | ⟨z1, z2⟩
    · cases z
    · obtain ⟨d, hd⟩ := hfree _ z1 rfl
      have hd : X.env.cells.lookup y = some d := hd
      rw [hd] at z2
      have z2 : c = d := z2
      rw [z2]; exact hd
  have into : ∀ {y}, scope.names.lookup y = some .free → ∃ c, (cloFrom X.env.cells scope.names []).lookup y = some c := fun {y} hl => mem_lookup (cloFrom_has (cells := X.env.cells) (acc := []) (show (y, NameKind.free) ∈ scope.names from PySem.mem_of_lookup hl))
  have up : ∀ {c : Addr} {v : Option Value}, b2.IsCell c v → h1.IsCell c v ∧ HZ c = none := fun {c v} ⟨o, e1, e2⟩ => ⟨⟨o, kp _ _ (e0.bs c o e1).1, e2⟩, (e0.bs c o e1).2⟩
  have noA : ∀ b : Addr, b ∉ (lamCx X A outer s1 HZ E scope f cc).ex := fun b z => nomatch (show b ∈ ([] : List Addr) from z)
  have e1 := Env0.less e0 R.ok.mod R.sub R.sz
  refine ⟨⟨e1.mod, L.kind, rfl, rfl, Nat.le_refl _, fun y z c a b => R.ok.inj y z c (from_ a) (from_ b), fun y hy => ?_, (fun y c z _ => nomatch (show false = true from z)), fun _ => hd, Around.frames_deeper e1.frames, .inr ⟨rfl, rfl⟩, fun b z => absurd z (noA b), e1.bs, e1.bsz, fun b _ _ => noA b,
      fun b z => absurd z (noA b), e1.funs, e1.frf⟩,
    rfl, e1.bare, Un.kept kp, ⟨_, ns, fun i y v a b k => ?_⟩, fun y c e => ?_, e1.hok.fresh (Nat.le_refl _), fun y c e => ?_, (fun q hq => nomatch (show q ∈ ([] : List (Addr × Obj)) ++ [] from hq)), e1.hok.kept kp, R.len⟩
  · have hy : scope.names.lookup y = some .cell ∨ scope.names.lookup y = some .free := hy
    rcases hy with hy | hy
    · exact absurd rfl (L.own _ (PySem.mem_of_lookup hy)).2
    · exact into hy
  · have k : Vis scope y := k
    rcases k with k | k | k
    · exact absurd rfl (L.own _ (PySem.mem_of_lookup k)).1
    · exact absurd rfl (L.own _ (PySem.mem_of_lookup k)).2
    · obtain ⟨u, r, c, hc, hv⟩ := R.loc i y v a b (L.free _ (PySem.mem_of_lookup k) rfl)
      obtain ⟨d, hd2⟩ := into k
      have q := from_ hd2
      rw [hc] at q
      cases q
      exact ⟨u, r, .inr ⟨.inr k, c, hd2, (up hv).1⟩⟩
  · obtain ⟨v, hv⟩ := R.cell y c (from_ e)
    exact ⟨v, (up hv).1⟩
  · obtain ⟨v, hv⟩ := R.cell y c (from_ e)
    exact (up hv).2
/-- the context of a def that runs over the greater base -/
abbrev cxB (X : Cx) (b2 : Heap) (A : Around) (stk : List Env) (Ng : List Str) (x : Str) (sg : Scope) (g : Addr) (cdg : Value) (s : Shared) (H : Hp) : Cx := cxOf C8.CX0 X.prog X.w X.K X.mg b2 Ng x sg g cdg A stk s H C8.E0
/-- a(), a being a lambda that is known -/
theorem pe_actB {A : Around} {stk : List Env} {Ng : List Str} {qg : Str} {sg : Scope} {g : Addr} {cdg : Value} {L : LamC} {s : Shared} {H : Hp} {k i : Nat} {a : Str} {pn : List (Addr × Obj)} {xe : Value → Shared → Prop} {W : WX} {t : XK → TE} {p1 p2 : Pos} {f cc : Addr}
    (R : Rdy X σ b2) (LS : LamS X.env.scope L.scope)
    (bnd : ∀ (cl : List (Str × Addr)) (pm cv ctv : Value), bindArgs (PySem.W.kla_fn "<lambda>" (X.env.qual ++ "<lambda>") L.params L.body L.scope cl pm cv ctv) ⟨[], []⟩ = pure [])
    (tk : Takes ((cxB X b2 A stk Ng qg sg g cdg s H).tr pn xe) W) (hr : Room (k + 1) (A.deeper (envOfC qg sg s.heap.objs.size g cdg)))
    (hb : ∀ (A : Around) (outer : List Env) (s : Shared) (H : Hp) (E : XK) (f cc : Addr), Room k (A.deeper (lamEnv X L.scope s.heap.objs.size f cc)) → PE (lamCx X A outer s H E L.scope f cc) L.body (t E))
    (hN : Ng[i]? = some a) (hv : Vis sg a) (hd : (a == ("__debug__" : Str)) = false := by decide) (hcd : (a == ("__classdict__" : Str)) = false := by decide) :
    PE ((cxB X b2 A stk Ng qg sg g cdg s H).tr pn xe) (.Call (.Name a p1) [] [] p2)
      (fun τ G Q => τ[i]? = some (some (.ref f)) ∧ G cc = some (CodeO cc (X.env.qual ++ "<lambda>")) ∧ G f = some (LamO f cc (X.env.qual ++ "<lambda>") L X.env.cells) ∧ t (WE W τ) σ G Q) := by
  constructor
  intro pz sz τ G Q J hh
  refine wpAny_Call_Name_kw (thn ((pe_var (pos := p1) (i := i) hN hv hd hcd).run pz sz τ G (fun v G' => v = .ref f ∧ G' = G) J ⟨.ref f, hh.1, rfl, rfl⟩) fun u s1 w => ?_)
  obtain ⟨v, G', J1, rv, rfl, rfl⟩ := w
  obtain rfl : u = Value.ref f := rv
  obtain ⟨⟨pm, ctv, ff⟩, _, _⟩ := J1.hok f _ hh.2.2.1
  refine PySem.W.callWith_F0 ⟨_, _, _, _, ff⟩ ?_
  obtain ⟨⟨oc, vs, tt, e1, e2, e3⟩, _, _⟩ := J1.hok cc _ hh.2.1
  have told : codeAny (model X.prog X.w) (A.deeper (envOfC qg sg s.heap.objs.size g cdg)) (.call (.ref f) ⟨[], []⟩) (CR (L2.CX X.prog X.w) (envOfC qg sg s.heap.objs.size g cdg :: stk) X.prog X.w G' s1 Q (WE W τ)) s1 := by
    refine PySem.W.kla_callFunE hr.depth ff rfl LS.co LS.gen rfl ⟨cc, oc, vs, tt, rfl, e1, e2, e3⟩ ?_
    rw [bnd]
    refine wpAny_pure (wpAny_newFunctionEnv (fun y hy => (LS.own y hy).2) (fun y hy => absurd hy (by simp)) (fun h1 ns sb => ⟨J1.nolimit.fresh _ sb, ?_⟩) LS.kind)
    have kp : ∀ b o, s1.heap.get? b = some o → h1.get? b = some o := fun b o e => sb.extBut b o (Nat.ne_of_lt (Heap.lt_size e)) (Heap.get?_push_of_some _ e)
    have J2 := lam_start3 (A := A.deeper (envOfC qg sg s.heap.objs.size g cdg)) (outer := envOfC qg sg s.heap.objs.size g cdg :: stk) (E := WE W τ) (f := f) (cc := cc) (tk := s1.toks + ([] : List (Str × Value)).length) R LS J1.env0 hr.hd ns kp
    refine PySem.W.kla_codeExpr (wpAny_mono ((hb _ _ s1 G' (WE W τ) f cc (hr.deeper _)).run [] _ _ G' Q J2 hh.2.2.2) (fun v s2 w => ?_) fun _ _ w => w)
    exact w.elim fun y w => w.elim fun G2 w => ⟨y, G2, w.1.os, w.1.bare, w.1.base, w.1.hok, w.2.1, w.2.2⟩
  refine wpAny_call (codeAny_mono told fun r s2 w => ?_)
  rcases r with e | fl
  · exact passAt tk τ pz G' s1 e s2 J1 w
  · cases fl with
    | ret u => exact J1.after w
    | _ => exact False.elim w
end
end DL

namespace DL
open PySem PySem.Spec PyProof.Rows L2 LamX
/-! ## a def called with a lambda that stands in a slot -/
theorem pe_wordB {Y : Cx} {TT : (XK → Hp → VK → Prop) → Hp → VK → Prop} {tl : Addr → Addr → XK → Hp → VK → Prop} {x a y q : Str} {g : Addr} {k j : Nat} {pg : Arguments} {bg : List Stmt} {sg : Scope} {dV kV doc pm cdv ct oc : Value} {an od : Option Addr} {osl : Array (Option Value)} {Ng : List Str}
    {p p3 pos : Pos} (hg : Gl Y x) (hm : Y.mg x = some (.ref g)) (hk : PySem.W.keepIn Y.K (.ref g) = true)
    (lk : Y.K.lookup g = some ⟨oc, od, .func (PySem.W.fnOf x x pg bg sg dV kV doc pm an cdv ct), osl⟩) (hcg : PySem.W.codeIn Y.K cdv x = true) (bn : L2.Binds Y.K (PySem.W.fnOf x x pg bg sg dV kV doc pm an cdv ct) [a] []) (Sg : FnScope Ng [a] sg)
    (gv : Gives Y Ng x sg g cdv bg a q TT) (hr : Room (k + 1) Y.A)
    (act : ∀ (f cc : Addr) (s : Shared) (H : Hp) (W : WX) (pn : List (Addr × Obj)) (xe : Value → Shared → Prop) (p1 p2 : Pos), Room k (Y.A.deeper (envOfC x sg s.heap.objs.size g cdv)) → Takes ((cxG Y Ng x sg g cdv s H).tr pn xe) W →
      PE ((cxG Y Ng x sg g cdv s H).tr pn xe) (.Call (.Name a p1) [] [] p2) (fun τ G Q => τ[0]? = some (some (.ref f)) ∧ G cc = some (CodeO cc q) ∧ tl f cc (WE W τ) G Q))
    (hN : Y.N[j]? = some y) (hv : Vis Y.env.scope y) (hdb : (x == ("__debug__" : Str)) = false := by decide) (hd : (y == ("__debug__" : Str)) = false := by decide) (hcd : (y == ("__classdict__" : Str)) = false := by decide) :
    PE Y (.Call (.Name x p) [.Name y p3] [] pos) (fun τ G Q => ∃ f cc, τ[j]? = some (some (.ref f)) ∧ G cc = some (CodeO cc q) ∧ TT (tl f cc) G Q) := by
  constructor
  rintro pins s σ H Q I ⟨f, cc, hs, hc, h⟩
  refine wpAny_Call_Name_kw (ld_glob I hg hm (PySem.W.callWith_K (h₀ := Y.base) I.ok.mod.kin hk ?_ (by rfl) (by rfl)) hdb)
  show wpAny _ _ (spliced ((false, eval (.Name y p3) Y.env) :: backTo pos (starEach [] Y.env))) _ _ s
  refine Calls.spliced_cons (thn ((pe_var (pos := p3) (i := j) hN hv hd hcd).run pins s σ H (fun v G => v = .ref f ∧ G = H) I ⟨.ref f, hs, rfl, rfl⟩) fun u s2 w => ?_)
  obtain ⟨v, G, J, rv, rfl, rfl⟩ := w
  obtain rfl : u = Value.ref f := rv
  refine Calls.spliced_nil ⟨J.kIn, ?_⟩
  have told : codeAny (model Y.prog Y.w) Y.A (.call (.ref g) ⟨[.ref f], []⟩) (CR C8.CX0 Y.stack Y.prog Y.w G s2 Q C8.E0) s2 := by
    refine run_ofS (N := Ng) (ps := [a]) (us := [.ref f]) (vs := [.ref f]) lk hcg Sg hr J.env0 (bn s2 [.ref f] J.kIn rfl) (.cons rfl .nil) rfl fun hr2 => ?_
    obtain ⟨t2, ht2, hq⟩ := gv f cc s2 G Q (tl f cc) (fun W pn xe p1 p2 tk => act f cc s2 G W pn xe p1 p2 hr2 tk) hc h
    exact ⟨t2, ht2.nox, hq⟩
  refine wpAny_call (codeAny_mono told fun r s3 w => ?_)
  rcases r with e | fl
  · exact (show False from w).elim
  · cases fl with
    | ret u => exact J.after w
    | _ => exact False.elim w
/-- the lambdas ls, one behind the other, each of the word w -/
def goL (wd : Str → Option Str) (w : Str) : List (LamC × (S → R D)) → S → Option S
  | [], s => some s
  | p :: r, s => match fW wd p.2 s with
    | .ok (.str x) s' => if x = w then goL wd w r s' else none
    | _ => none
/-- the reading of a lambda whose worth is known, in a def over the greater base -/
def tlB (X : Cx) (ls : List (LamC × (S → R D))) (σ : L2.St) : Addr → Addr → XK → Hp → VK → Prop := fun f cc E G Q =>
  ∃ p, p ∈ ls ∧ G f = some (LamO f cc (X.env.qual ++ "<lambda>") p.1 X.env.cells) ∧ ∃ va s HP, Rel X.K va s σ HP G ∧ ∀ Z : Cx, Z.K = X.K → Z.mg = X.mg → PoE Z (fun cls d _ H => E cls d H) va s σ HP G (p.2 s) Q
/-- what is known of the lambdas of a frame -/
structure LamsOk (X : Cx) (k : Nat) (ls : List (LamC × (S → R D))) : Prop where
  sc : ∀ p ∈ ls, LamS X.env.scope p.1.scope
  bnd : ∀ p ∈ ls, ∀ (q : Str) (cl : List (Str × Addr)) (pm cv ctv : Value), bindArgs (PySem.W.kla_fn "<lambda>" q p.1.params p.1.body p.1.scope cl pm cv ctv) ⟨[], []⟩ = pure []
  run : ∀ p ∈ ls, ∀ (A : Around) (outer : List Env) (s : Shared) (H : Hp) (E : XK) (f cc : Addr), Room k (A.deeper (lamEnv X p.1.scope s.heap.objs.size f cc)) → DE (lamCx X A outer s H E p.1.scope f cc) (fun cls d _ H => E cls d H) p.1.body p.2
theorem lams_nil {X : Cx} {k : Nat} : LamsOk X k [] := ⟨(fun _ h => nomatch h), (fun _ h => nomatch h), (fun _ h => nomatch h)⟩
theorem lams_cons {X : Cx} {k : Nat} {fb : S → R D} {ls : List (LamC × (S → R D))} (L : LamC) (h1 : LamS X.env.scope L.scope) (h2 : ∀ (q : Str) (cl : List (Str × Addr)) (pm cv ctv : Value), bindArgs (PySem.W.kla_fn "<lambda>" q L.params L.body L.scope cl pm cv ctv) ⟨[], []⟩ = pure [])
    (h3 : ∀ (A : Around) (outer : List Env) (s : Shared) (H : Hp) (E : XK) (f cc : Addr), Room k (A.deeper (lamEnv X L.scope s.heap.objs.size f cc)) → DE (lamCx X A outer s H E L.scope f cc) (fun cls d _ H => E cls d H) L.body fb) (r : LamsOk X k ls) : LamsOk X k ((L, fb) :: ls) :=
  ⟨fun M h => by rcases List.mem_cons.mp h with e | h; (· rw [e]; exact h1); exact r.sc M h, fun M h => by rcases List.mem_cons.mp h with e | h; (· rw [e]; exact h2); exact r.bnd M h,
    fun M h => by rcases List.mem_cons.mp h with e | h; (· rw [e]; exact h3); exact r.run M h⟩
theorem act_B {X : Cx} {σ : L2.St} {b2 : Heap} {A : Around} {stk : List Env} {Ng : List Str} {qg : Str} {sg : Scope} {g : Addr} {cdg : Value} {s : Shared} {H : Hp} {k : Nat} {a : Str} {pn : List (Addr × Obj)} {xe : Value → Shared → Prop} {W : WX} {p1 p2 : Pos} {f cc : Addr} {ls : List (LamC × (S → R D))}
    (R : Rdy X σ b2) (ok : LamsOk X k ls) (tk : Takes ((cxB X b2 A stk Ng qg sg g cdg s H).tr pn xe) W) (hr : Room (k + 1) (A.deeper (envOfC qg sg s.heap.objs.size g cdg)))
    (hN : Ng[0]? = some a) (hv : Vis sg a) (hd : (a == ("__debug__" : Str)) = false := by decide) (hcd : (a == ("__classdict__" : Str)) = false := by decide) :
    PE ((cxB X b2 A stk Ng qg sg g cdg s H).tr pn xe) (.Call (.Name a p1) [] [] p2) (fun τ G Q => τ[0]? = some (some (.ref f)) ∧ G cc = some (CodeO cc (X.env.qual ++ "<lambda>")) ∧ tlB X ls σ f cc (WE W τ) G Q) := by
  constructor
  rintro pins s2 τ G Q J ⟨h1, h2, L, hL, hf, va, st, HP, rl, hp⟩
  exact (pe_actB (i := 0) (t := fun E => tDE (lamCx X A stk s H E L.1.scope f cc) (fun cls d _ H => E cls d H) L.2) R (ok.sc L hL) (fun cl pm cv ctv => ok.bnd L hL _ cl pm cv ctv) tk hr
    (fun A2 outer2 s2 H2 E2 f2 cc2 hr2 => pe_imp (ok.run L hL A2 outer2 s2 H2 E2 f2 cc2 hr2) fun σ H Q ⟨va, s, HP, rl, h⟩ => ⟨va, s, HP, rl, h⟩) hN hv hd hcd).run pins s2 τ G Q J ⟨h1, h2, hf, va, st, HP, rl, hp _ rfl rfl⟩
/-- what the word's def makes of it -/
theorem word_turn {X : Cx} {ls : List (LamC × (S → R D))} {σ : L2.St} {l : List (Value × Option Str)} {wd : Str → Option Str} {va : VA} {s : S} {HP G : Hp} {f cc : Addr} {p : LamC × (S → R D)} {Q : VK} {x : Str} {s' : S}
    (hw : ∀ n w C, wd n = some w → ECl X.mg n C → wdOf X.K C l = some w) (rl : Rel X.K va s σ HP G) (hL : p ∈ ls) (hf : G f = some (LamO f cc (X.env.qual ++ "<lambda>") p.1 X.env.cells)) (h : fW wd p.2 s = .ok (.str x) s')
    (k : ∀ H' HP', Stp X.K va s σ HP G s' σ HP' H' → Q (.str x) H') : TTw X.K l (tlB X ls σ f cc) G Q := by
  intro E Q2 hE hQ
  refine ⟨p, hL, hf, va, s, HP, rl, fun Z eK em => ?_⟩
  unfold fW at h
  cases e : p.2 s with
  | stuck => rw [e] at h; cases h
  | ok d s2 =>
    rw [e] at h
    cases h
    intro v H' HP' st dv
    rw [eK] at st
    exact hQ _ _ (k H' HP' st)
  | exc n p s2 =>
    rw [e] at h
    dsimp only at h
    intro dd H' HP' C st hx hC
    rw [eK] at st
    rw [em] at hC
    cases ew : wd n with
    | none => rw [ew] at h; cases h
    | some w =>
      rw [ew] at h
      cases h
      exact hE _ _ _ x (hw n x C ew hC) (k H' HP' st)
end DL

namespace DL
open PySem PySem.Spec PyProof.Rows L2 LamX
/-! ## a def whose frame is known when it ends -/
/-- how a def stands, its code object told -/
structure DefAt (K : PySem.W.Frag) (mg : Str → Option Value) (x : Str) (st : Stmt) (ps : List Str) : Type where
  g : Addr
  oc : Value
  od : Option Addr
  kV : Value
  doc : Value
  pm : Value
  an : Option Addr
  cdv : Value
  ct : Value
  osl : Array (Option Value)
  m : mg x = some (.ref g)
  kp : PySem.W.keepIn K (.ref g) = true
  lk : K.lookup g = some ⟨oc, od, .func (PySem.W.fnOf x x (defArgs st) (defBody st) (defScope st) .none kV doc pm an cdv ct), osl⟩
  cd : PySem.W.codeIn K cdv x = true
  b : L2.Binds K (PySem.W.fnOf x x (defArgs st) (defBody st) (defScope st) .none kV doc pm an cdv ct) ps []
/-- the statements end with `return y`, y in the slot i holding an own list; f: what those before are worth -/
structure DTail (X : Cx) (W : WX) (i : Nat) (sts : List Stmt) (f : S → DL.T) : Prop where
  run : ∀ (pins : List (Addr × Obj)) (s : Shared) (σ : L2.St) (H : Hp) (va : VA) (st st1 : S) (HP : Hp) (xs : List D) (R : L2.St → Hp → Prop), Inv X pins σ H s → Rel X.K va st σ HP H → f st = .next st1 → st1.sl[i]? = some (some (.own xs)) →
    (∀ σ' H' HP', Stp X.K va st σ HP H st1 σ' HP' H' → R σ' H') →
    wpAny (model X.prog X.w) X.A (execs sts X.env) (fun fl s' => ∃ u v σ' H', fl = .ret u ∧ Inv X pins σ' H' s' ∧ L2.RelV v u ∧ σ'[i]? = some (some v) ∧ R σ' H') X.xe s
theorem dtail_ret {X : Cx} {W : WX} {i : Nat} {x : Str} {p pos : Pos} (hN : X.N[i]? = some x := by rfl) (hv : Vis X.env.scope x := by first | exact Or.inl rfl | exact Or.inr (Or.inl rfl) | exact Or.inr (Or.inr rfl)) (hd : (x == ("__debug__" : Str)) = false := by decide) (hcd : (x == ("__classdict__" : Str)) = false := by decide) :
    DTail X W i [.Return (some (.Name x p)) pos] (fun s => .next s) := by
  constructor
  intro pins s σ H va st st1 HP xs R I rl e hx hR
  cases e
  obtain ⟨a, vs, h1, _⟩ := rl.own i xs hx
  refine wpAny_execs_cons (wpAny_Return_some (thn ((pe_var (pos := p) (i := i) hN hv hd hcd).run pins s σ H (fun v H' => v = .ref a ∧ H' = H) I ⟨_, h1, rfl, rfl⟩) fun u s1 q => ?_))
  obtain ⟨v, H', J, rv, rfl, rfl⟩ := q
  exact ⟨u, _, σ, _, rfl, J, rv, h1, hR _ _ _ (Stp.refl rl)⟩
theorem dtail_cons {X : Cx} {W : WX} {i : Nat} {s0 : Stmt} {sts : List Stmt} {f g : S → DL.T} (h1 : DS X W s0 f) (h2 : DTail X W i sts g) : DTail X W i (s0 :: sts) (fun s => (f s).seq g) := by
  constructor
  intro pins s σ H va st st1 HP xs R I rl e hx hR
  replace e : (f st).seq g = .next st1 := e
  cases q : f st with
  | next s2 =>
    rw [q] at e
    refine wpAny_execs_cons (thn (h1.run pins s σ H { nx := fun σ' H' => ∃ HP', Stp X.K va st σ HP H s2 σ' HP' H', rt := fun _ _ => False } I ⟨va, st, HP, rl, by rw [q]; exact fun σ' H' HP' stp => ⟨HP', stp⟩⟩) fun fl s1 w => ?_)
    cases fl with
    | next =>
      obtain ⟨σ', H', I', HP', stp⟩ := w
      exact h2.run pins s1 σ' H' va s2 st1 HP' xs R I' stp.rel e hx fun σ2 H2 HP2 st2 => hR σ2 H2 HP2 (stp.trans st2)
    | brk => obtain ⟨_, _, _, q⟩ := w; exact q.elim
    | cont => obtain ⟨_, _, _, q⟩ := w; exact q.elim
    | ret u => obtain ⟨_, _, _, _, _, q⟩ := w; exact q.elim
  | ret d s' => rw [q] at e; cases e
  | retO d s' => rw [q] at e; cases e
  | brk s' => rw [q] at e; cases e
  | cnt s' => rw [q] at e; cases e
  | exc n p s' => rw [q] at e; cases e
  | stuck => rw [q] at e; cases e
/-- a def called, its frame told at the end -/
theorem run_inv {P : Program} {w : World} {K : PySem.W.Frag} {mg : Str → Option Value} {base : Heap} {x : Str} {st : Stmt} {N ps : List Str} {i k : Nat} {W : WX} {f : S → DL.T} {A : Around} {outer : List Env} {s : Shared} {H HP : Hp} {us : List Value} {vs : List V} {va : VA} {st0 st1 : S} {xs : List D} {R : L2.St → Hp → Prop}
    (D : DefAt K mg x st ps) (Sc : FnScope N ps (defScope st)) (hr : Room (k + 1) A) (e0 : Env0 P w K mg base A outer s H) (r : Vals vs us) (hl : vs.length = ps.length) (kin : K.In s.heap)
    (body : Room k (A.deeper (envOfC x (defScope st) s.heap.objs.size D.g D.cdv)) → DTail (cxOf C8.CX0 P w K mg base N x (defScope st) D.g D.cdv A outer s H C8.E0) W i (defBody st) f)
    (rl : Rel K va st0 (L2.start N vs) HP H) (e1 : f st0 = .next st1) (e2 : st1.sl[i]? = some (some (.own xs))) (hR : ∀ σ' H' HP', Stp K va st0 (L2.start N vs) HP H st1 σ' HP' H' → R σ' H') :
    codeAny (model P w) A (.call (.ref D.g) ⟨us, []⟩) (fun r s' => match r with
      | .ok (.ret u) => ∃ v σ' H', Inv (cxOf C8.CX0 P w K mg base N x (defScope st) D.g D.cdv A outer s H C8.E0) [] σ' H' s' ∧ L2.RelV v u ∧ σ'[i]? = some (some v) ∧ R σ' H'
      | _ => False) s := by
  have hb := D.b s us kin (by rw [List.append_nil, ← hl]; exact r.length.symm)
  rw [List.append_nil] at hb
  have KX : K.In s.heap := e0.mod.kin.keeps fun b o e => (e0.bs b o e).1
  have lim : s.heap.NoLimit := e0.mod.nolimit.keeps fun b o e => (e0.bs b o e).1
  have hkind : ∀ y ∈ ps.zip us, (defScope st).names.lookup y.1 = some .local ∨ ((defScope st).names.lookup y.1 = some .cell ∧ ((cellsFrom (s.heap.objs.size + 1) (defScope st).names []).lookup y.1).isSome = true) := fun ⟨n, v⟩ hy => by
    rcases Sc.par n (List.of_mem_zip hy).1 with q | q
    · exact .inl q
    · exact .inr ⟨q, PySem.W.cellsFrom_some _ _ _ (.inl q)⟩
  refine codeAny_call_function hr.depth (KX _ _ D.lk) rfl Sc.co Sc.gen rfl (PySem.W.codeRec_of KX D.cd) (hb _ _ _ _ ?_)
  refine wpAny_newFunctionEnv_cells Sc.kind hkind fun env he s1 x => ?_
  subst he
  refine ⟨lim.keeps x.toInCall.keep, codeAny_func ?_⟩
  have I := inv_start (CX := C8.CX0) (E := C8.E0) Sc hr.hd e0 hl r x
  refine wpAny_mono ((body (hr.deeper _)).run [] s1 (L2.start N vs) H va st0 st1 HP xs R I rl e1 e2 hR) (fun fl s' hs => ?_) fun e s' hs => hs
  obtain ⟨u, v, σ', H', rfl, J, rv, hσ, hr'⟩ := hs
  exact ⟨v, σ', H', J, rv, hσ, hr'⟩
end DL

namespace DL
open PySem PySem.Spec PyProof.Rows L2
/-! ## objects in slots -/
/-- what the class must have -/
structure OC (K : PySem.W.Frag) : Prop where
  cls : Cls K objC
  n1 : NoAttr K objC obf1
  n2 : NoAttr K objC obf2
abbrev obFs (v1 v2 : V) : List (Str × V) := [(obf1, v1), (obf2, v2)]
theorem obf_ne : (obf2 == obf1) = false := by decide +kernel
theorem obf_ne' : ¬ obf1 = obf2 := by decide +kernel
theorem put1 (v1 v2 w : V) : putF obf1 w (obFs v1 v2) = obFs w v2 := by unfold putF; simp
theorem put2 (v1 v2 w : V) : putF obf2 w (obFs v1 v2) = obFs v1 w := by unfold putF putF; simp [obf_ne', Ne.symm obf_ne']
theorem look1 (v1 v2 : V) : (obFs v1 v2).lookup obf1 = some v1 := by simp [obFs, List.lookup]
theorem look2 (v1 v2 : V) : (obFs v1 v2).lookup obf2 = some v2 := by simp [obFs, List.lookup, obf_ne]
def getO (i : Nat) (s : S) : Option (D × D) := match s.sl[i]? with
  | some (some (.obj n p)) => some (n, p)
  | _ => none
theorem getO_some {i : Nat} {s : S} {n p : D} (h : getO i s = some (n, p)) : s.sl[i]? = some (some (.obj n p)) := by
  unfold getO at h
  split at h
  · rename_i q; cases h; exact q
  · cases h
section
variable {K : PySem.W.Frag} {va : VA} {s : S} {σ : St} {HP H HP' H' : Hp}
theorem tab_upd' {T : List (Addr × Str)} {a : Addr} {o o' : HO} (t : LamX.Tabs T H) (h : H a = some o') (nt : NT o' ∨ ∃ dx fs, o' = .ins objC dx fs) : LamX.Tabs T (upd H a o) := fun p hp => by
  have n0 : (∀ ps, o' ≠ .tbl ps) ∧ ∀ φ, o' ≠ .ext φ := by
    rcases nt with z | ⟨dx, fs, rfl⟩
    · exact ⟨z.1, z.2.1⟩
    · exact ⟨(fun _ z => nomatch z), (fun _ z => nomatch z)⟩
  obtain ⟨ps, h1, h2, h3⟩ := t p hp
  have n1 : p.1 ≠ a := fun z => by rw [z, h] at h1; exact n0.1 ps (Option.some.inj h1)
  refine ⟨ps, by rw [upd_ne n1]; exact h1, h2, fun pos cv hc => ?_⟩
  obtain ⟨c, e1, e2⟩ := h3 pos cv hc
  have n2 : c ≠ a := fun z => by
    rw [z, h] at e2
    unfold LamX.CodeO at e2
    exact n0.2 _ (Option.some.inj e2)
  exact ⟨c, e1, by rw [upd_ne n2]; exact e2⟩
/-- the object of slot i is changed: what the rest of the heap does is told by the rest -/
theorem Rel.objAt (r : Rel K va s σ HP H) {i : Nat} {n p n' p' : D} {a : Addr} (e : s.sl[i]? = some (some (.obj n p))) (ha : σ[i]? = some (some (.ref a)))
    (sub : Same HP' H') (sm : Same HP HP') (tb : TB lamT HP' H') (keep : ∀ b o, H b = some o → NT o → H' b = some o ∧ (HP b = none → HP' b = none))
    (kob : ∀ b dx fs, b ≠ a → H b = some (.ins objC dx fs) → HP b = none → H' b = some (.ins objC dx fs) ∧ HP' b = none) (ob : ObAt K HP' H' a n' p') :
    Stp K va s σ HP H (s.put i (.obj n' p')) σ HP' H' := by
  have ow : ∀ (j : Nat) n1 p1, (s.put i (.obj n' p')).sl[j]? = some (some (.obj n1 p1)) → (j = i ∧ n1 = n' ∧ p1 = p') ∨ (j ≠ i ∧ s.sl[j]? = some (some (.obj n1 p1))) := fun j n1 p1 q => by
    by_cases h : j = i
    · subst h
      have := sl_put_eq q
      injection this with e
      injection e with e1 e2
      exact .inl ⟨rfl, e1, e2⟩
    · rw [sl_put_ne h] at q; exact .inr ⟨h, q⟩
  have any : ∀ (j : Nat) n1 p1, (s.put i (.obj n' p')).sl[j]? = some (some (.obj n1 p1)) → ∃ n2 p2, s.sl[j]? = some (some (.obj n2 p2)) := fun j n1 p1 q => by
    rcases ow j n1 p1 q with ⟨rfl, _⟩ | ⟨_, q'⟩
    · exact ⟨n, p, e⟩
    · exact ⟨n1, p1, q'⟩
  have oth : ∀ (j : Nat) x, (s.put i (.obj n' p')).sl[j]? = some (some x) → (∀ n p, x ≠ .obj n p) → s.sl[j]? = some (some x) := fun j x q nx => by
    by_cases h : j = i
    · subst h
      have := sl_put_eq q
      exact absurd this.symm (by intro z; injection z with z; exact nx n' p' z.symm)
    · rw [sl_put_ne h] at q; exact q
  refine ⟨⟨by simpa [S.put] using r.len, sub, fun j d q => ?_, fun j ys q => ?_, fun j q => ?_, fun ws q => ?_, fun j k ys zs b ne q1 q2 => ?_, fun j ys q => ?_, tb, ⟨fun j n1 p1 q => ?_, fun j k n1 p1 n2 p2 b ne q1 q2 q3 => ?_, fun j n1 p1 b q z => (by obtain ⟨_, _, q'⟩ := any j n1 p1 q; exact r.ob.pin j _ _ b q' z)⟩⟩, sm, fun b o hb nt nb => ⟨(keep b o hb nt).1, fun z => nb ?_, (keep b o hb nt).2⟩, Iff.rfl, fun b dx fs hb nb o => ?_⟩
  · obtain ⟨v, h1, h2⟩ := r.val j d (oth j _ q (fun _ _ z => nomatch z))
    exact ⟨v, h1, Dv.mono sm d v h2⟩
  · obtain ⟨b, vs, h1, h2, h3, hz, h4⟩ := r.own j ys (oth j _ q (fun _ _ z => nomatch z))
    exact ⟨b, vs, h1, (keep b _ h3 nL).2 h2, (keep b _ h3 nL).1, hz, DvA.mono sm ys vs h4⟩
  · exact r.vis j (oth j _ q (fun _ _ z => nomatch z))
  · obtain ⟨h1, vs, h2, hz, h3⟩ := r.vst ws q
    exact ⟨(keep va.a _ h2 nL).2 h1, vs, (keep va.a _ h2 nL).1, hz, DvA.mono sm ws vs h3⟩
  · exact r.dis j k ys zs b ne (oth j _ q1 (fun _ _ z => nomatch z)) (oth k _ q2 (fun _ _ z => nomatch z))
  · exact r.dvi j ys (oth j _ q (fun _ _ z => nomatch z))
  · rcases ow j n1 p1 q with ⟨rfl, rfl, rfl⟩ | ⟨nj, q'⟩
    · exact ⟨a, ha, ob⟩
    · obtain ⟨b, h1, h2, dx, v1, v2, h3, d1, d2⟩ := r.ob.at_ j n1 p1 q'
      have ne : b ≠ a := fun z => by subst z; exact r.ob.dis j i n1 p1 n p b nj q' e h1 ha
      obtain ⟨k1, k2⟩ := kob b dx _ ne h3 h2
      exact ⟨b, h1, k2, dx, v1, v2, k1, Dv.mono sm n1 v1 d1, Dv.mono sm p1 v2 d2⟩
  · obtain ⟨_, _, q1'⟩ := any j n1 p1 q1
    obtain ⟨_, _, q2'⟩ := any k n2 p2 q2
    exact r.ob.dis j k _ _ _ _ b ne q1' q2' q3
  · rcases z with ⟨j, ys, q1, q2⟩ | z
    · exact .inl ⟨j, ys, oth j _ q1 (fun _ _ z => nomatch z), q2⟩
    · exact .inr z
  · have ne : b ≠ a := fun z => o ⟨i, n, p, e, by rw [z]; exact ha⟩
    obtain ⟨k1, k2⟩ := kob b dx fs ne hb nb
    refine ⟨k1, k2, fun ⟨j, n1, p1, q1, q2⟩ => o ?_⟩
    obtain ⟨n2, p2, q1'⟩ := any j n1 p1 q1
    exact ⟨j, n2, p2, q1', q2⟩
/-- a field of it is stored -/
theorem Rel.chgO (r : Rel K va s σ HP H) {i : Nat} {n p n' p' : D} {a dx : Addr} {v1 v2 w1 w2 : V} (e : s.sl[i]? = some (some (.obj n p))) (ha : σ[i]? = some (some (.ref a))) (nP : HP a = none) (hH : H a = some (.ins objC dx (obFs v1 v2)))
    (d1 : Dv K HP w1 n') (d2 : Dv K HP w2 p') : Stp K va s σ HP H (s.put i (.obj n' p')) σ HP (upd H a (.ins objC dx (obFs w1 w2))) := by
  refine r.objAt e ha (fun b x q => by rw [upd_ne (ne_of_none q nP)]; exact r.sub b x q) (Same.refl _) ⟨tab_upd' r.tab.t hH (.inr ⟨_, _, rfl⟩), r.tab.n⟩ (fun b o hb nt => ⟨?_, fun z => z⟩) (fun b dx fs ne hb nb => ⟨by rw [upd_ne ne]; exact hb, nb⟩) ⟨nP, dx, w1, w2, upd_same, d1, d2⟩
  have ne : b ≠ a := fun z => by rw [z, hH] at hb; cases hb; exact nt.2.2 _ _ rfl
  rw [upd_ne ne]; exact hb
/-- a new object for slot i -/
theorem Rel.putObj (r : Rel K va s σ HP H) (i : Nat) {n p : D} {a : Addr} (np : va.pin i = none) (na : H a = none) (sub : Same HP' H') (sm : Same HP HP') (tb : TB lamT HP' H') (keep : ∀ b o, H b = some o → NT o → H' b = some o ∧ (HP b = none → HP' b = none))
    (kob : ∀ b dx fs, H b = some (.ins objC dx fs) → HP b = none → H' b = some (.ins objC dx fs) ∧ HP' b = none) (ob : ObAt K HP' H' a n p) :
    Stp K va s σ HP H (s.put i (.obj n p)) (σ.set i (some (.ref a))) HP' H' := by
  have lt : ∀ {y : Sl}, (s.put i y).sl[i]? ≠ none → i < σ.length := fun {y} q => by
    have : i < (s.put i y).sl.length := by
      rcases Nat.lt_or_ge i (s.put i y).sl.length with z | z
      · exact z
      · exact absurd (List.getElem?_eq_none_iff.mpr z) q
    simpa [S.put, r.len] using this
  have at_i : ∀ {y : Sl}, (s.put i y).sl[i]? ≠ none → (σ.set i (some (V.ref a)))[i]? = some (some (.ref a)) := fun q => List.getElem?_set_self (lt q)
  have ow : ∀ (j : Nat) n1 p1, (s.put i (.obj n p)).sl[j]? = some (some (.obj n1 p1)) → (j = i ∧ n1 = n ∧ p1 = p) ∨ (j ≠ i ∧ s.sl[j]? = some (some (.obj n1 p1))) := fun j n1 p1 q => by
    by_cases h : j = i
    · subst h
      have := sl_put_eq q
      injection this with e
      injection e with e1 e2
      exact .inl ⟨rfl, e1, e2⟩
    · rw [sl_put_ne h] at q; exact .inr ⟨h, q⟩
  have oth : ∀ (j : Nat) x, (s.put i (.obj n p)).sl[j]? = some (some x) → (∀ n p, x ≠ .obj n p) → j ≠ i ∧ s.sl[j]? = some (some x) := fun j x q nx => by
    by_cases h : j = i
    · subst h
      have := sl_put_eq q
      exact absurd this.symm (by intro z; injection z with z; exact nx n p z.symm)
    · rw [sl_put_ne h] at q; exact ⟨h, q⟩
  have fr : ∀ (j : Nat) n1 p1 b, s.sl[j]? = some (some (.obj n1 p1)) → σ[j]? = some (some (.ref b)) → b ≠ a := fun j n1 p1 b q1 q2 z => by
    obtain ⟨c, h1, _, _, _, _, h3, _⟩ := r.ob.at_ j n1 p1 q1
    rw [q2] at h1; injection h1 with h1; injection h1 with h1; injection h1 with h1
    rw [← h1, z, na] at h3; cases h3
  refine ⟨⟨by simpa [S.put] using r.len, sub, fun j d q => ?_, fun j ys q => ?_, fun j q => ?_, fun ws q => ?_, fun j k ys zs b ne q1 q2 q3 => ?_, fun j ys q nv => ?_, tb, ⟨fun j n1 p1 q => ?_, fun j k n1 p1 n2 p2 b ne q1 q2 q3 => ?_, fun j n1 p1 b q z => (by
    rcases ow j n1 p1 q with ⟨rfl, _⟩ | ⟨nj, q'⟩
    · rw [np] at z; cases z
    · rw [st_put_ne nj]; exact r.ob.pin j _ _ b q' z)⟩⟩, sm, fun b o hb nt nb => ⟨(keep b o hb nt).1, fun z => nb ?_, (keep b o hb nt).2⟩, Iff.rfl, fun b dx fs hb nb o => ?_⟩
  · obtain ⟨nj, q'⟩ := oth j _ q (fun _ _ z => nomatch z)
    obtain ⟨v, h1, h2⟩ := r.val j d q'
    exact ⟨v, by rw [st_put_ne nj]; exact h1, Dv.mono sm d v h2⟩
  · obtain ⟨nj, q'⟩ := oth j _ q (fun _ _ z => nomatch z)
    obtain ⟨b, vs, h1, h2, h3, hz, h4⟩ := r.own j ys q'
    exact ⟨b, vs, by rw [st_put_ne nj]; exact h1, (keep b _ h3 nL).2 h2, (keep b _ h3 nL).1, hz, DvA.mono sm ys vs h4⟩
  · obtain ⟨nj, q'⟩ := oth j _ q (fun _ _ z => nomatch z)
    rw [st_put_ne nj]; exact r.vis j q'
  · obtain ⟨h1, vs, h2, hz, h3⟩ := r.vst ws q
    exact ⟨(keep va.a _ h2 nL).2 h1, vs, (keep va.a _ h2 nL).1, hz, DvA.mono sm ws vs h3⟩
  · obtain ⟨nj, q1'⟩ := oth j _ q1 (fun _ _ z => nomatch z)
    obtain ⟨nk, q2'⟩ := oth k _ q2 (fun _ _ z => nomatch z)
    rw [st_put_ne nj] at q3
    rw [st_put_ne nk]
    exact r.dis j k ys zs b ne q1' q2' q3
  · obtain ⟨nj, q'⟩ := oth j _ q (fun _ _ z => nomatch z)
    rw [st_put_ne nj]
    exact r.dvi j ys q' nv
  · rcases ow j n1 p1 q with ⟨rfl, rfl, rfl⟩ | ⟨nj, q'⟩
    · exact ⟨a, at_i (by rw [q]; simp), ob⟩
    · obtain ⟨b, h1, h2, dx, v1, v2, h3, d1, d2⟩ := r.ob.at_ j n1 p1 q'
      obtain ⟨k1, k2⟩ := kob b dx _ h3 h2
      exact ⟨b, by rw [st_put_ne nj]; exact h1, k2, dx, v1, v2, k1, Dv.mono sm n1 v1 d1, Dv.mono sm p1 v2 d2⟩
  · rcases ow j n1 p1 q1 with ⟨rfl, rfl, rfl⟩ | ⟨nj, q1'⟩
    · rcases ow k n2 p2 q2 with ⟨rfl, rfl, rfl⟩ | ⟨nk, q2'⟩
      · exact absurd rfl ne
      · rw [at_i (by rw [q1]; simp)] at q3
        rw [st_put_ne nk]
        intro q4
        injection q3 with q3; injection q3 with q3; injection q3 with q3
        exact fr k n2 p2 b q2' q4 q3.symm
    · rw [st_put_ne nj] at q3
      rcases ow k n2 p2 q2 with ⟨rfl, rfl, rfl⟩ | ⟨nk, q2'⟩
      · rw [at_i (by rw [q2]; simp)]
        intro q4
        injection q4 with q4; injection q4 with q4; injection q4 with q4
        exact fr j n1 p1 b q1' q3 q4.symm
      · rw [st_put_ne nk]
        exact r.ob.dis j k n1 p1 n2 p2 b ne q1' q2' q3
  · rcases z with ⟨j, ys, q1, q2⟩ | z
    · obtain ⟨nj, q1'⟩ := oth j _ q1 (fun _ _ z => nomatch z)
      rw [st_put_ne nj] at q2
      exact .inl ⟨j, ys, q1', q2⟩
    · exact .inr z
  · obtain ⟨k1, k2⟩ := kob b dx fs hb nb
    refine ⟨k1, k2, fun ⟨j, n1, p1, q1, q2⟩ => o ?_⟩
    rcases ow j n1 p1 q1 with ⟨rfl, rfl, rfl⟩ | ⟨nj, q1'⟩
    · rw [at_i (by rw [q1]; simp)] at q2
      injection q2 with q2; injection q2 with q2; injection q2 with q2
      rw [← q2, na] at hb; cases hb
    · rw [st_put_ne nj] at q2
      exact ⟨j, n1, p1, q1', q2⟩
end
/-! ## fields -/
def fldO (i : Nat) (b : Bool) (s : S) : R D := match getO i s with
  | some (n, p) => .ok (if b = true then p else n) s
  | none => .stuck
def setO (i : Nat) (b : Bool) (d : D) (s : S) : T := match getO i s with
  | some (n, p) => .next (s.put i (if b = true then .obj n d else .obj d p))
  | none => .stuck
section
variable {X : Cx} {W : WX} {e : Expr} {fe : S → R D} {y f : Str} {py pos pos' : Pos}
theorem de_fldO (i : Nat) (b : Bool) (oc : OC X.K) (hf : f = if b = true then obf2 else obf1 := by rfl) (hN : X.N[i]? = some y := by rfl) (hv : Vis X.env.scope y := by first | exact Or.inl rfl | exact Or.inr (Or.inl rfl) | exact Or.inr (Or.inr rfl))
    (hd : (y == ("__debug__" : Str)) = false := by decide) (hcd : (y == ("__classdict__" : Str)) = false := by decide) (hb : attributeBase (.Name y py) f X.env (eval (.Name y py) X.env) = eval (.Name y py) X.env := by rfl) :
    DE X W (.Attribute (.Name y py) f pos) (fldO i b) := by
  refine pe_imp (pe_fld (pv i hN hv hd hcd) hb) fun σ H Q h => ?_
  obtain ⟨va, s, HP, rl, h⟩ := h
  unfold fldO at h
  split at h
  · rename_i n p q
    obtain ⟨a, h1, h2, dx, v1, v2, h3, d1, d2⟩ := rl.ob.at_ i n p (getO_some q)
    subst hf
    cases b with
    | false => exact ⟨.ref a, h1, a, objC, dx, _, v1, rfl, h3, oc.cls, oc.n1, look1 _ _, h.fin rl d1⟩
    | true => exact ⟨.ref a, h1, a, objC, dx, _, v2, rfl, h3, oc.cls, oc.n2, look2 _ _, h.fin rl d2⟩
  · exact h.elim
theorem ds_fldO (i : Nat) (b : Bool) (oc : OC X.K) (he : DE X W e fe) (hf : f = if b = true then obf2 else obf1 := by rfl) (hN : X.N[i]? = some y := by rfl) (hv : Vis X.env.scope y := by first | exact Or.inl rfl | exact Or.inr (Or.inl rfl) | exact Or.inr (Or.inr rfl))
    (hd : (y == ("__debug__" : Str)) = false := by decide) (hcd : (y == ("__classdict__" : Str)) = false := by decide) (hs : swapsWith e (some (.Attribute (.Name y py) f pos')) pos.line X.env = pure false := by rfl) :
    DS X W (.Assign [.Attribute (.Name y py) f pos'] e pos) (fun s => (fe s).thn (setO i b)) := by
  refine ps_imp (ps_fld (pv i hN hv hd hcd) he hs) fun D σ H h => ?_
  obtain ⟨va, s, HP, rl, h⟩ := h
  dsimp only at h
  refine bindES rl h fun d s1 v H1 HP1 st1 dv h1 => ?_
  unfold setO at h1
  split at h1
  · rename_i n p q
    have q' := getO_some q
    obtain ⟨a, e1, e2, dx, v1, v2, h3, d1, d2⟩ := st1.rel.ob.at_ i n p q'
    subst hf
    cases b with
    | false =>
      refine ⟨.ref a, e1, a, objC, dx, _, rfl, h3, oc.cls, oc.n1, by simp, ?_⟩
      rw [show (if (false : Bool) = true then obf2 else obf1) = obf1 from rfl, put1]
      exact h1 _ _ _ (st1.rel.chgO q' e1 e2 h3 dv d2)
    | true =>
      refine ⟨.ref a, e1, a, objC, dx, _, rfl, h3, oc.cls, oc.n2, by simp, ?_⟩
      rw [show (if (true : Bool) = true then obf2 else obf1) = obf2 from rfl, put2]
      exact h1 _ _ _ (st1.rel.chgO q' e1 e2 h3 d1 dv)
  · exact h1.elim
end
end DL

namespace DL
open PySem PySem.Spec PyProof.Rows L2
/-! ## what a def of an object is worth -/
inductive FRo where
  | ok (d : D) (n p : D)
  /-- the object itself -/
  | self (n p : D)
  | exc (x : Str) (pl : Option Int) (n p : D)
  | stuck
/-- of the two fields and the other arguments -/
abbrev FMo := D → D → List D → FRo
structure FGo (K : PySem.W.Frag) (a : Addr) (HP H HP' H' : Hp) (n p : D) : Prop where
  sub : Same HP' H'
  same : Same HP HP'
  keep : ∀ b o, H b = some o → NT o → H' b = some o ∧ (HP b = none → HP' b = none)
  tab : TB lamT HP' H'
  kob : ∀ b dx fs, b ≠ a → H b = some (.ins objC dx fs) → HP b = none → H' b = some (.ins objC dx fs) ∧ HP' b = none
  ob : ObAt K HP' H' a n p
def PoFo (K : PySem.W.Frag) (mg : Str → Option Value) (a : Addr) (HP H : Hp) (r : FRo) (Q : VK) (E : XK) : Prop := match r with
  | .ok d n p => ∀ v H' HP', FGo K a HP H HP' H' n p → Dv K HP' v d → Q v H'
  | .self n p => ∀ H' HP', FGo K a HP H HP' H' n p → Q (.ref a) H'
  | .exc x pl n p => ∀ dd H' HP' C, FGo K a HP H HP' H' n p → ExcAt pl dd H' → ECl mg x C → E C dd H'
  | .stuck => False
def spO (K : PySem.W.Frag) (mg : Str → Option Value) (n : Nat) (m : FMo) : Sp := fun vs H Q E => ∃ a HP ds vs' nn pp, vs = .ref a :: vs' ∧ vs.length = n ∧ Same HP H ∧ DvA K HP vs' ds ∧ ObAt K HP H a nn pp ∧ TB lamT HP H ∧ PoFo K mg a HP H (m nn pp ds) Q E
abbrev FnO (P : Program) (w : World) (K : PySem.W.Frag) (mg : Str → Option Value) (base : Heap) (k : Nat) (f : Addr) (fd : FuncData) (ps : List Str) (m : FMo) : Prop := FnOk P w K mg base (L2.CX P w) k f fd ps (spO K mg ps.length m)
def stO (N : List Str) (n p : D) (ds : List D) : S := ⟨some (.obj n p) :: (ds.map (fun d => some (Sl.val d)) ++ List.replicate (N.length - (ds.length + 1)) none), none⟩
/-- self lies at a -/
def va0 (a : Addr) : VA := ⟨0, some a, none⟩
theorem rel_startO {K : PySem.W.Frag} {HP H : Hp} {a : Addr} {vs' : List V} {ds : List D} {N : List Str} {n p : D} (hn : vs'.length + 1 ≤ N.length) (sm : Same HP H) (h : DvA K HP vs' ds) (ob : ObAt K HP H a n p) (tb : TB lamT HP H) :
    Rel K (va0 a) (stO N n p ds) (start N (.ref a :: vs')) HP H := by
  have nt : ∀ (i : Nat) (x : Sl), (stO N n p ds).sl[i]? = some (some x) → (i = 0 ∧ x = .obj n p) ∨ (∃ j d, i = j + 1 ∧ x = .val d ∧ (ds.map (fun d => some (Sl.val d)) ++ List.replicate (N.length - (ds.length + 1)) none)[j]? = some (some (.val d))) := fun i x q => by
    cases i with
    | zero => left; exact ⟨rfl, by simpa [stO] using q.symm⟩
    | succ j =>
      right
      have q' : (ds.map (fun d => some (Sl.val d)) ++ List.replicate (N.length - (ds.length + 1)) none)[j]? = some (some x) := by simpa [stO] using q
      obtain ⟨d, e⟩ := not_start (rep_none _) q'
      subst e
      exact ⟨j, d, rfl, rfl, q'⟩
  have st : start N (.ref a :: vs') = some (.ref a) :: (vs'.map some ++ List.replicate (N.length - (vs'.length + 1)) none) := rfl
  rw [st]
  refine ⟨?_, sm, fun i d q => ?_, fun i ys q => ?_, fun i q => ?_, fun ys q => (by cases q), fun i j ys zs b _ q => ?_, fun i ys q => ?_, tb, ⟨fun i n1 p1 q => ?_, fun i j n1 p1 n2 p2 b ne q1 q2 => ?_, fun i n1 p1 b q z => ?_⟩⟩
  · simp [stO, h.length]
  · rcases nt i _ q with ⟨rfl, e⟩ | ⟨j, d', rfl, e, q'⟩
    · cases e
    · cases e
      obtain ⟨v, y1, y2⟩ := vals_start h (r' := List.replicate (N.length - (vs'.length + 1)) none) (rep_none _) j d q'
      exact ⟨v, by simpa using y1, y2⟩
  · rcases nt i _ q with ⟨rfl, e⟩ | ⟨j, d', rfl, e, q'⟩ <;> cases e
  · rcases nt i _ q with ⟨rfl, e⟩ | ⟨j, d', rfl, e, q'⟩ <;> cases e
  · rcases nt i _ q with ⟨rfl, e⟩ | ⟨j, d', rfl, e, q'⟩ <;> cases e
  · rcases nt i _ q with ⟨rfl, e⟩ | ⟨j, d', rfl, e, q'⟩ <;> cases e
  · rcases nt i _ q with ⟨rfl, e⟩ | ⟨j, d', rfl, e, q'⟩
    · cases e; exact ⟨a, rfl, ob⟩
    · cases e
  · rcases nt i _ q1 with ⟨rfl, e⟩ | ⟨k, d', rfl, e, q'⟩
    · rcases nt j _ q2 with ⟨rfl, e2⟩ | ⟨k, d', rfl, e2, q'⟩
      · exact absurd rfl ne
      · cases e2
    · cases e
  · rcases nt i _ q with ⟨rfl, e⟩ | ⟨j, d', rfl, e, q'⟩
    · cases z; rfl
    · cases e
theorem stO_own {N : List Str} {n p : D} {ds : List D} {i : Nat} {xs : List D} : (stO N n p ds).sl[i]? ≠ some (some (.own xs)) := fun q => by
  cases i with
  | zero => simp [stO] at q
  | succ j =>
    have q' : (ds.map (fun d => some (Sl.val d)) ++ List.replicate (N.length - (ds.length + 1)) none)[j]? = some (some (.own xs)) := by simpa [stO] using q
    obtain ⟨d, e⟩ := not_start (rep_none _) q'
    cases e
theorem stO_obj {N : List Str} {n p n1 p1 : D} {ds : List D} {i : Nat} (q : (stO N n p ds).sl[i]? = some (some (.obj n1 p1))) : i = 0 := by
  cases i with
  | zero => rfl
  | succ j =>
    have q' : (ds.map (fun d => some (Sl.val d)) ++ List.replicate (N.length - (ds.length + 1)) none)[j]? = some (some (.obj n1 p1)) := by simpa [stO] using q
    obtain ⟨d, e⟩ := not_start (rep_none _) q'
    cases e
/-- a step whose slot 0 holds the object all along -/
theorem Stp.fgo {K : PySem.W.Frag} {HP H HP' H' : Hp} {N : List Str} {n p n' p' : D} {a : Addr} {ds : List D} {σ σ' : St} {s' : S} (t : Stp K (va0 a) (stO N n p ds) σ HP H s' σ' HP' H') (h0 : σ[0]? = some (some (.ref a)))
    (e : getO 0 s' = some (n', p')) : FGo K a HP H HP' H' n' p' := by
  obtain ⟨b, h1, ob⟩ := t.rel.ob.at_ 0 n' p' (getO_some e)
  have h0' := t.rel.ob.pin 0 n' p' a (getO_some e) rfl
  rw [h0'] at h1
  injection h1 with h1; injection h1 with h1; injection h1 with h1
  subst h1
  refine ⟨t.rel.sub, t.same, fun c o h nt => ?_, t.rel.tab, fun c dx fs ne h nP => ?_, ob⟩
  · obtain ⟨k1, _, k2⟩ := t.keep c o h nt fun z => by
      rcases z with ⟨i, xs, q, _⟩ | ⟨q, _⟩
      · exact stO_own q
      · exact q rfl
    exact ⟨k1, k2⟩
  · obtain ⟨k1, k2, _⟩ := t.kob c dx fs h nP fun ⟨i, n1, p1, q1, q2⟩ => by
      have := stO_obj q1
      subst this
      rw [h0] at q2
      injection q2 with q2; injection q2 with q2; injection q2 with q2
      exact ne q2.symm
    exact ⟨k1, k2⟩
def T.finO : T → FRo
  | .ret d s => match getO 0 s with
    | some (n, p) => .ok d n p
    | none => .stuck
  | .next s => match getO 0 s with
    | some (n, p) => .ok .non n p
    | none => .stuck
  | .exc x pl s => match getO 0 s with
    | some (n, p) => .exc x pl n p
    | none => .stuck
  | _ => .stuck
@[simp] theorem finO_ret (d : D) (s : S) : (T.ret d s).finO = match getO 0 s with
    | some (n, p) => .ok d n p
    | none => .stuck := rfl
@[simp] theorem finO_next (s : S) : (T.next s).finO = match getO 0 s with
    | some (n, p) => .ok .non n p
    | none => .stuck := rfl
@[simp] theorem finO_exc (x : Str) (pl : Option Int) (s : S) : (T.exc x pl s).finO = match getO 0 s with
    | some (n, p) => .exc x pl n p
    | none => .stuck := rfl
/-- return self -/
def T.finS : T → FRo
  | .next s => match getO 0 s with
    | some (n, p) => .self n p
    | none => .stuck
  | .exc x pl s => match getO 0 s with
    | some (n, p) => .exc x pl n p
    | none => .stuck
  | _ => .stuck
/-- statements, then return of the name at slot i -/
def tDSf (X : Cx) (W : WX) (i : Nat) (f : S → T) : TS := fun D σ H => ∃ va s HP, Rel X.K va s σ HP H ∧ PoS X W va s σ HP H (f s) { D with nx := fun σ' H' => ∃ v, σ'[i]? = some (some v) ∧ D.rt v H' }
theorem dsf_ret {X : Cx} {W : WX} {x : Str} {p pos : Pos} (i : Nat) (hN : X.N[i]? = some x := by rfl) (hv : Vis X.env.scope x := by first | exact Or.inl rfl | exact Or.inr (Or.inl rfl) | exact Or.inr (Or.inr rfl)) (hd : (x == ("__debug__" : Str)) = false := by decide) (hcd : (x == ("__classdict__" : Str)) = false := by decide) :
    PSs X [.Return (some (.Name x p)) pos] (tDSf X W i (fun s => .next s)) := pss_imp (pss_one (ps_ret (pv i hN hv hd hcd))) fun D σ H ⟨va, s, HP, rl, h⟩ => h σ H HP (Stp.refl rl)
theorem dsf_cons {X : Cx} {W : WX} {st : Stmt} {sts : List Stmt} {f f' : S → T} {i : Nat} (h1 : DS X W st f) (h2 : PSs X sts (tDSf X W i f')) : PSs X (st :: sts) (tDSf X W i (fun s => (f s).seq f')) := by
  refine pss_imp (pss_cons h1 h2) fun D σ H h => ?_
  obtain ⟨va, s, HP, rl, h⟩ := h
  dsimp only at h
  refine ⟨va, s, HP, rl, ?_⟩
  cases e : f s with
  | next s' => rw [e] at h; exact fun σ' H' HP' stp => ⟨va, s', HP', stp.rel, PoS.from stp h⟩
  | ret d s' => rw [e] at h; exact h
  | retO d s' => rw [e] at h; exact h
  | brk s' => rw [e] at h; exact h
  | cnt s' => rw [e] at h; exact h
  | exc x pl s' => rw [e] at h; exact h
  | stuck => rw [e] at h; exact h
end DL

namespace DL
open PySem PySem.Spec PyProof.Rows L2
/-! ## methods of the objects -/
section
variable {P : Program} {w : World} {K : PySem.W.Frag} {mg : Str → Option Value} {base : Heap}
theorem po_fin {a : Addr} {HP H : Hp} {N : List Str} {nn pp : D} {ds : List D} {vs' : List V} {Q : VK} {E : XK} {X : Cx} {t : T} (eK : X.K = K) (em : X.mg = mg) (po : PoFo K mg a HP H t.finO Q E) :
    PoS X (fun cls d _ H => E cls d H) (va0 a) (stO N nn pp ds) (start N (.ref a :: vs')) HP H t { nx := fun _ H' => Q .non H', rt := Q } := by
  subst eK em
  have h0 : (start N (.ref a :: vs'))[0]? = some (some (.ref a)) := rfl
  cases t with
  | next s' =>
    rw [finO_next] at po
    split at po
    · rename_i n p z; exact fun σ' H' HP' stp => po .non H' HP' (stp.fgo h0 z) .non
    · exact po.elim
  | ret d s' =>
    rw [finO_ret] at po
    split at po
    · rename_i n p z; exact fun v σ' H' HP' stp dv => po v H' HP' (stp.fgo h0 z) dv
    · exact po.elim
  | exc x pl s' =>
    rw [finO_exc] at po
    split at po
    · rename_i n p z; exact fun dd σ' H' HP' C stp y1 y2 => po dd H' HP' C (stp.fgo h0 z) y1 y2
    · exact po.elim
  | retO xs s' => exact po.elim
  | brk s' => exact po.elim
  | cnt s' => exact po.elim
  | stuck => exact po.elim
theorem po_finS {a : Addr} {HP H : Hp} {N : List Str} {nn pp : D} {ds : List D} {vs' : List V} {Q : VK} {E : XK} {X : Cx} {t : T} (eK : X.K = K) (em : X.mg = mg) (po : PoFo K mg a HP H t.finS Q E) :
    PoS X (fun cls d _ H => E cls d H) (va0 a) (stO N nn pp ds) (start N (.ref a :: vs')) HP H t { nx := fun σ' H' => ∃ v, σ'[0]? = some (some v) ∧ Q v H', rt := Q } := by
  subst eK em
  have h0 : (start N (.ref a :: vs'))[0]? = some (some (.ref a)) := rfl
  cases t with
  | next s' =>
    unfold T.finS at po
    dsimp only at po
    split at po
    · rename_i n p z; exact fun σ' H' HP' stp => ⟨.ref a, stp.rel.ob.pin 0 n p a (getO_some z) rfl, po H' HP' (stp.fgo h0 z)⟩
    · exact po.elim
  | exc x pl s' =>
    unfold T.finS at po
    dsimp only at po
    split at po
    · rename_i n p z; exact fun dd σ' H' HP' C stp y1 y2 => po dd H' HP' C (stp.fgo h0 z) y1 y2
    · exact po.elim
  | ret d s' => exact po.elim
  | retO xs s' => exact po.elim
  | brk s' => exact po.elim
  | cnt s' => exact po.elim
  | stuck => exact po.elim
theorem lenO_le {N ps : List Str} {sc : Scope} {vs' : List V} {a : Addr} (Sc : FnScope N ps sc) (e : (V.ref a :: vs').length = ps.length) : vs'.length + 1 ≤ N.length := by
  have := congrArg List.length Sc.pre
  rw [List.length_take] at this
  rw [List.length_cons] at e
  omega
/-- THE RULE for a def of an object -/
theorem fn_o {x qual : Str} {st : Stmt} {f : Addr} {fd : FuncData} {N ps : List Str} {k : Nat} {f' : S → T} (F : Fun K x qual st f fd) (Sc : FnScope N ps (defScope st))
    (body : ∀ (cdv : Value) (A : Around) (outer : List Env) (s : Shared) (H : Hp) (E : XK), Room k (A.deeper (envOfC qual (defScope st) s.heap.objs.size f cdv)) →
      DSs (cxOf (L2.CX P w) P w K mg base N qual (defScope st) f cdv A outer s H E) (fun cls d _ H => E cls d H) (defBody st) f') :
    FnO P w K mg base (k + 1) f fd ps (fun n p ds => (f' (stO N n p ds)).finO) := by
  refine F.okX Sc (fun vs H Q E h => ?_) (fun cdv A outer s H vs Q E hr h => ?_)
  · obtain ⟨_, _, _, _, _, _, _, e, _⟩ := h; exact e
  · obtain ⟨a, HP, ds, vs', nn, pp, e0, e1, sm, dv, ob, tb, po⟩ := h
    subst e0
    exact ⟨_, body cdv A outer s H E hr, va0 a, stO N nn pp ds, HP, rel_startO (lenO_le Sc e1) sm dv ob tb, po_fin rfl rfl po⟩
theorem fn_self {x qual : Str} {st : Stmt} {f : Addr} {fd : FuncData} {N ps : List Str} {k : Nat} {f' : S → T} (F : Fun K x qual st f fd) (Sc : FnScope N ps (defScope st))
    (body : ∀ (cdv : Value) (A : Around) (outer : List Env) (s : Shared) (H : Hp) (E : XK), Room k (A.deeper (envOfC qual (defScope st) s.heap.objs.size f cdv)) →
      PSs (cxOf (L2.CX P w) P w K mg base N qual (defScope st) f cdv A outer s H E) (defBody st) (tDSf (cxOf (L2.CX P w) P w K mg base N qual (defScope st) f cdv A outer s H E) (fun cls d _ H => E cls d H) 0 f')) :
    FnO P w K mg base (k + 1) f fd ps (fun n p ds => (f' (stO N n p ds)).finS) := by
  refine F.okX Sc (fun vs H Q E h => ?_) (fun cdv A outer s H vs Q E hr h => ?_)
  · obtain ⟨_, _, _, _, _, _, _, e, _⟩ := h; exact e
  · obtain ⟨a, HP, ds, vs', nn, pp, e0, e1, sm, dv, ob, tb, po⟩ := h
    subst e0
    exact ⟨_, body cdv A outer s H E hr, va0 a, stO N nn pp ds, HP, rel_startO (lenO_le Sc e1) sm dv ob tb, po_finS rfl rfl po⟩
/-- def f(self, *v) -/
theorem fn_oStar {x qual : Str} {st : Stmt} {f : Addr} {oc : Value} {od an : Option Addr} {osl : Array (Option Value)} {kV doc pm cdv ct : Value} {N : List Str} {p0 pv : Str} {k : Nat} {f' : S → T}
    (lk : K.lookup f = some ⟨oc, od, .func (PySem.W.fnOf x qual (defArgs st) (defBody st) (defScope st) .none kV doc pm an cdv ct), osl⟩) (hcd : PySem.W.codeIn K cdv qual = true) (Sc : FnScope N [p0, pv] (defScope st))
    (hb : ∀ us rest : List Value, us.length = [p0].length → bindArgs (PySem.W.fnOf x qual (defArgs st) (defBody st) (defScope st) .none kV doc pm an cdv ct) ⟨us ++ rest, []⟩ = (newTuple rest >>= fun t => pure ([p0].zip us ++ [(pv, t)])))
    (body : ∀ (A : Around) (outer : List Env) (s : Shared) (H : Hp) (E : XK), Room k (A.deeper (envOfC qual (defScope st) s.heap.objs.size f cdv)) →
      DSs (cxOf (L2.CX P w) P w K mg base N qual (defScope st) f cdv A outer s H E) (fun cls d _ H => E cls d H) (defBody st) f') :
    FnR P w K mg base (L2.CX P w) (k + 1) f (fun vs H Q E => ∃ ws rest, vs = ws ++ rest ∧ ws.length = [p0].length ∧ rest.length ≤ sizeLine ∧ ∀ p, H p = Option.none → spO K mg 2 (fun n p ds => (f' (stO N n p ds)).finO) (ws ++ [V.ref p]) (upd H p (.tup rest)) Q E) := by
  refine StX.fn_star (ps := [p0]) lk hcd Sc StX.cxUp hb fun A outer s H vs Q E hr h => ?_
  obtain ⟨a, HP, ds, vs', nn, pp, e0, e1, sm, dv, ob, tb, po⟩ := h
  subst e0
  exact ⟨_, body A outer s H E hr, va0 a, stO N nn pp ds, HP, rel_startO (lenO_le Sc e1) sm dv ob tb, po_fin rfl rfl po⟩
end
/-- the def x of the class keeps m -/
def HasO (P : Program) (w : World) (K : PySem.W.Frag) (mg : Str → Option Value) (base : Heap) (k : Nat) (x : Str) (ps : List Str) (m : FMo) : Prop := ∃ f fd, FnO P w K mg base k f fd ps m ∧ Meth K objC x f ∧ Binds K fd ps []
def HasOR (P : Program) (w : World) (K : PySem.W.Frag) (mg : Str → Option Value) (base : Heap) (k : Nat) (x : Str) (m : FMo) : Prop :=
  ∃ f, FnR P w K mg base (L2.CX P w) k f (fun vs H Q E => ∃ ws rest, vs = ws ++ rest ∧ ws.length = 1 ∧ rest.length ≤ sizeLine ∧ ∀ p, H p = Option.none → spO K mg 2 m (ws ++ [V.ref p]) (upd H p (.tup rest)) Q E) ∧ Meth K objC x f
/-! ## their calls -/
def callO (i : Nat) (m : FMo) (n : Nat) (ds : List D) (s : S) : R D := match getO i s with
  | some (nn, pp) => if ds.length + 1 = n then (match m nn pp ds with
    | .ok d n' p' => .ok d (s.put i (.obj n' p'))
    | .exc x pl n' p' => .exc x pl (s.put i (.obj n' p'))
    | _ => .stuck) else .stuck
  | none => .stuck
section
variable {X : Cx} {W : WX} {CX : CXT} {k : Nat} {f C : Addr} {fd : FuncData} {ps : List Str} {sp : Sp} {E : St → XK} {x m : Str} {p pos apos : Pos} {e o : Expr} {es : List Expr} {ta : TE} {t : TA} {ga : S → R (List D)} {y : Str} {py : Pos}
theorem run_fnRS {pins : List (Addr × Obj)} {σ : St} {H : Hp} {s : Shared} {Q : VK} {us : List Value} {vs : List V} (F : FnR X.prog X.w X.K X.mg X.base CX k f sp) (hr : Room k X.A) (hx : PassesAt CX X σ (E σ))
    (I : Inv X pins σ H s) (r : Vals vs us) (h : sp vs H Q (E σ)) : wpAny (model X.prog X.w) X.A (call (.ref f) us) (EP X pins σ Q) X.xe s := by
  refine wpAny_call (codeAny_mono (F X.A X.stack s H us vs Q (E σ) hr I.env0 r h) fun r s' hq => ?_)
  cases r with
  | error e => exact hx pins H s e s' I hq
  | ok fl =>
    cases fl with
    | ret u => exact I.after hq
    | next => exact False.elim hq
    | brk => exact False.elim hq
    | cont => exact False.elim hq
theorem fnR_of (F : FnOk X.prog X.w X.K X.mg X.base CX k f fd ps sp) (hb : Binds X.K fd ps []) : FnR X.prog X.w X.K X.mg X.base CX k f sp := fun A outer s H us vs Q E hr e0 r h => by
  have hl : us.length = ps.length := by rw [← r.length]; exact F.len _ _ _ _ h
  have kin : X.K.In s.heap := e0.mod.kin.keeps fun b o q => (e0.bs b o q).1
  have b := hb s us kin (by rw [List.append_nil]; exact hl)
  rw [List.append_nil] at b
  exact F.run A outer s H ⟨us, []⟩ us vs Q E hr e0 b r h
def tMethS (C : Addr) (m : Str) (sp : Sp) (E : St → XK) (ta : TE) (t : TA) : TE := fun σ H Q => ta σ H fun x H1 => ∃ a dx fs, x = .ref a ∧ H1 a = some (.ins C dx fs) ∧ fs.lookup m = none ∧ t σ H1 fun vs H2 => sp (x :: vs) H2 Q (E σ)
theorem pe_methR {pl : Sem Bool} (he : PE X o ta) (c : Cls X.K C) (hm : Meth X.K C m f) (F : FnR X.prog X.w X.K X.mg X.base CX k f sp) (hr : Room k X.A) (hx : ∀ σ, PassesAt CX X σ (E σ)) (ha : PA X (e :: es) t)
    (hst : starEach (e :: es) X.env = (false, eval e X.env) :: starEach es X.env := by rfl) (hpl : (backTo pos (starEach es X.env)).any (·.1) = false := by rfl)
    (ht : eval (.Call (.Attribute o m apos) (e :: es) [] pos) X.env = (do
      let ov ← eval o X.env
      standAt apos.atName
      let (f, first) ← holding [ov] (getMethod ov m pl)
      callWith pos f first (backTo pos (starEach (e :: es) X.env)) (backToKw pos (keywordEach [] X.env))) := by rfl) :
    PE X (.Call (.Attribute o m apos) (e :: es) [] pos) (tMethS C m sp E ta t) := by
  refine ⟨fun pins s σ H Q I h => ?_⟩
  refine PySem.W.methodCall_KW (pl := pl) (thn (he.run pins s σ H _ I h) fun u s1 ⟨x, H1, I1, rx, a, dx, fs, ex, ea, l, q⟩ => ?_) ht
  subst ex
  obtain rfl : u = Value.ref a := rx
  refine getmeth_ok I1 ea c hm l ?_
  refine PySem.W.callWith_K (first := [.ref a]) (h₀ := X.base) I.ok.mod.kin hm.kp (thn (ha.run pos pins s1 σ H1 _ I1 q) fun us s2 ⟨vs, H2, I2, r, q2⟩ => ⟨I2.kIn, ?_⟩) hst hpl
  exact run_fnRS (us := .ref a :: us) (vs := .ref a :: vs) F hr (hx σ) I2 (.cons rfl r) q2
theorem pe_methR0 {pl : Sem Bool} (he : PE X o ta) (c : Cls X.K C) (hm : Meth X.K C m f) (F : FnR X.prog X.w X.K X.mg X.base CX k f sp) (hr : Room k X.A) (hx : ∀ σ, PassesAt CX X σ (E σ))
    (ht : eval (.Call (.Attribute o m apos) [] [] pos) X.env = (do
      let ov ← eval o X.env
      standAt apos.atName
      let (f, first) ← holding [ov] (getMethod ov m pl)
      callWith pos f first (backTo pos (starEach [] X.env)) (backToKw pos (keywordEach [] X.env))) := by rfl) :
    PE X (.Call (.Attribute o m apos) [] [] pos) (tMethS C m sp E ta tNil) := by
  refine ⟨fun pins s σ H Q I h => ?_⟩
  refine PySem.W.methodCall_KW (pl := pl) (thn (he.run pins s σ H _ I h) fun u s1 ⟨x, H1, I1, rx, a, dx, fs, ex, ea, l, q⟩ => ?_) ht
  subst ex
  obtain rfl : u = Value.ref a := rx
  refine getmeth_ok I1 ea c hm l ?_
  exact PySem.W.callWith_K0 (first := [.ref a]) I1.kIn hm.kp (run_fnRS (us := [.ref a]) (vs := [.ref a]) F hr (hx σ) I1 (.cons rfl .nil) q)
theorem look_not {v1 v2 : V} (h1 : (m == obf1) = false) (h2 : (m == obf2) = false) : (obFs v1 v2).lookup m = none := by simp [obFs, List.lookup, h1, h2]
theorem Rel.calledO {K : PySem.W.Frag} {va : VA} {s : S} {σ : St} {HP H HP' H' : Hp} {i : Nat} {n p n' p' : D} {a : Addr} (r : Rel K va s σ HP H) (e : s.sl[i]? = some (some (.obj n p))) (ha : σ[i]? = some (some (.ref a))) (g : FGo K a HP H HP' H' n' p') :
    Stp K va s σ HP H (s.put i (.obj n' p')) σ HP' H' := r.objAt e ha g.sub g.same g.tab g.keep g.kob g.ob
/-- what the call's promise asks, over a state that is told -/
theorem callO_po {va : VA} {s : S} {σ : St} {HP H : Hp} {i n : Nat} {mm : FMo} {ds : List D} {vs : List V} {a : Addr} {Q : VK} (rl : Rel X.K va s σ HP H) (ha : σ[i]? = some (some (.ref a))) (dv : DvA X.K HP vs ds)
    (h : PoE X W va s σ HP H (callO i mm n ds s) Q) : spO X.K X.mg n mm (.ref a :: vs) H Q (WE W σ) := by
  unfold callO at h
  split at h
  · rename_i nn pp q
    have q' := getO_some q
    obtain ⟨b, h1, ob⟩ := rl.ob.at_ i nn pp q'
    rw [ha] at h1
    injection h1 with h1; injection h1 with h1; injection h1 with h1
    subst h1
    split at h
    · rename_i hl
      refine ⟨a, HP, ds, vs, nn, pp, rfl, by rw [List.length_cons, dv.length]; exact hl, rl.sub, dv, ob, rl.tab, ?_⟩
      split at h
      · rename_i d n' p' z; rw [z]; exact fun v H' HP' g dv' => h v H' HP' (rl.calledO q' ha g) dv'
      · rename_i z; rw [z]; exact fun dd H' HP' C g y1 y2 => h dd H' HP' C (rl.calledO q' ha g) y1 y2
      · exact h.elim
    · exact h.elim
  · exact h.elim
/-- o.m(e, ..), o the object of slot i -/
theorem de_methO {mm : FMo} (i : Nat) (oc : OC X.K) (G : HasO X.prog X.w X.K X.mg X.base k m ps mm) (tk : Takes X W) (hr : Room k X.A) (ha : DA X W (e :: es) ga)
    (h1 : (m == obf1) = false := by decide +kernel) (h2 : (m == obf2) = false := by decide +kernel) (hN : X.N[i]? = some y := by rfl) (hv : Vis X.env.scope y := by first | exact Or.inl rfl | exact Or.inr (Or.inl rfl) | exact Or.inr (Or.inr rfl))
    (hd : (y == ("__debug__" : Str)) = false := by decide) (hcd : (y == ("__classdict__" : Str)) = false := by decide) {pl : Sem Bool}
    (hst : starEach (e :: es) X.env = (false, eval e X.env) :: starEach es X.env := by rfl) (hpl : (backTo pos (starEach es X.env)).any (·.1) = false := by rfl)
    (ht : eval (.Call (.Attribute (.Name y py) m apos) (e :: es) [] pos) X.env = (do
      let ov ← eval (.Name y py) X.env
      standAt apos.atName
      let (f, first) ← holding [ov] (getMethod ov m pl)
      callWith pos f first (backTo pos (starEach (e :: es) X.env)) (backToKw pos (keywordEach [] X.env))) := by rfl) :
    DE X W (.Call (.Attribute (.Name y py) m apos) (e :: es) [] pos) (fun s => if (getO i s).isSome = true then (ga s).bind fun ds s => callO i mm ps.length ds s else .stuck) := by
  obtain ⟨f, fd, F, hm, hb⟩ := G
  refine pe_imp (pe_methR (E := WE W) (pv i hN hv hd hcd) oc.cls hm (fnR_of F hb) hr (fun σ => passAt tk σ) ha hst hpl ht) fun σ H Q h => ?_
  obtain ⟨va, s, HP, rl, h⟩ := h
  dsimp only at h
  split at h
  · rename_i ho
    obtain ⟨⟨n, p⟩, q⟩ := Option.isSome_iff_exists.mp ho
    obtain ⟨a, e1, e2, dx, v1, v2, e3, d1, d2⟩ := rl.ob.at_ i n p (getO_some q)
    exact ⟨.ref a, e1, a, dx, _, rfl, e3, look_not h1 h2, bindAE rl h fun ds s1 vs H1 HP1 st1 dv p1 => callO_po st1.rel e1 dv p1⟩
  · exact h.elim
theorem de_methO0 {mm : FMo} (i : Nat) (oc : OC X.K) (G : HasO X.prog X.w X.K X.mg X.base k m ps mm) (tk : Takes X W) (hr : Room k X.A)
    (h1 : (m == obf1) = false := by decide +kernel) (h2 : (m == obf2) = false := by decide +kernel) (hN : X.N[i]? = some y := by rfl) (hv : Vis X.env.scope y := by first | exact Or.inl rfl | exact Or.inr (Or.inl rfl) | exact Or.inr (Or.inr rfl))
    (hd : (y == ("__debug__" : Str)) = false := by decide) (hcd : (y == ("__classdict__" : Str)) = false := by decide) {pl : Sem Bool}
    (ht : eval (.Call (.Attribute (.Name y py) m apos) [] [] pos) X.env = (do
      let ov ← eval (.Name y py) X.env
      standAt apos.atName
      let (f, first) ← holding [ov] (getMethod ov m pl)
      callWith pos f first (backTo pos (starEach [] X.env)) (backToKw pos (keywordEach [] X.env))) := by rfl) :
    DE X W (.Call (.Attribute (.Name y py) m apos) [] [] pos) (fun s => callO i mm ps.length [] s) := by
  obtain ⟨f, fd, F, hm, hb⟩ := G
  refine pe_imp (pe_methR0 (E := WE W) (pv i hN hv hd hcd) oc.cls hm (fnR_of F hb) hr (fun σ => passAt tk σ) ht) fun σ H Q h => ?_
  obtain ⟨va, s, HP, rl, h⟩ := h
  cases q : getO i s with
  | none => dsimp only at h; unfold callO at h; rw [q] at h; exact h.elim
  | some np =>
    obtain ⟨n, p⟩ := np
    obtain ⟨a, e1, e2, dx, v1, v2, e3, d1, d2⟩ := rl.ob.at_ i n p (getO_some q)
    exact ⟨.ref a, e1, a, dx, _, rfl, e3, look_not h1 h2, callO_po rl e1 .nil h⟩
/-- o.m(e, ..), m(self, *v) -/
theorem de_methOR {mm : FMo} (i : Nat) (oc : OC X.K) (G : HasOR X.prog X.w X.K X.mg X.base k m mm) (tk : Takes X W) (hr : Room k X.A) (ha : DA X W (e :: es) ga)
    (h1 : (m == obf1) = false := by decide +kernel) (h2 : (m == obf2) = false := by decide +kernel) (hN : X.N[i]? = some y := by rfl) (hv : Vis X.env.scope y := by first | exact Or.inl rfl | exact Or.inr (Or.inl rfl) | exact Or.inr (Or.inr rfl))
    (hd : (y == ("__debug__" : Str)) = false := by decide) (hcd : (y == ("__classdict__" : Str)) = false := by decide) {pl : Sem Bool}
    (hst : starEach (e :: es) X.env = (false, eval e X.env) :: starEach es X.env := by rfl) (hpl : (backTo pos (starEach es X.env)).any (·.1) = false := by rfl)
    (ht : eval (.Call (.Attribute (.Name y py) m apos) (e :: es) [] pos) X.env = (do
      let ov ← eval (.Name y py) X.env
      standAt apos.atName
      let (f, first) ← holding [ov] (getMethod ov m pl)
      callWith pos f first (backTo pos (starEach (e :: es) X.env)) (backToKw pos (keywordEach [] X.env))) := by rfl) :
    DE X W (.Call (.Attribute (.Name y py) m apos) (e :: es) [] pos) (fun s => if (getO i s).isSome = true then (ga s).bind fun ds s => if ds.length ≤ 64 then callO i mm 2 [.tup ds] s else .stuck else .stuck) := by
  obtain ⟨f, F, hm⟩ := G
  refine pe_imp (pe_methR (E := WE W) (pv i hN hv hd hcd) oc.cls hm F hr (fun σ => passAt tk σ) ha hst hpl ht) fun σ H Q h => ?_
  obtain ⟨va, s, HP, rl, h⟩ := h
  dsimp only at h
  split at h
  · rename_i ho
    obtain ⟨⟨n, p⟩, q⟩ := Option.isSome_iff_exists.mp ho
    obtain ⟨a, e1, e2, dx, v1, v2, e3, d1, d2⟩ := rl.ob.at_ i n p (getO_some q)
    refine ⟨.ref a, e1, a, dx, _, rfl, e3, look_not h1 h2, bindAE rl h fun ds s1 vs H1 HP1 st1 dv p1 => ?_⟩
    split at p1
    · rename_i hz
      have hz2 : ds.length ≤ sizeLine := by rw [sizeLine_eq]; omega
      refine ⟨[.ref a], vs, rfl, rfl, by rw [dv.length]; exact hz2, fun q nq => ?_⟩
      have st2 := st1.rel.laid (o := .tup vs) nq
      exact callO_po st2.rel e1 (.cons (.tup upd_same hz2 (DvA.mono st2.same ds vs dv)) .nil) (PoE.from st2 p1)
    · exact p1.elim
  · exact h.elim
end
end DL

namespace PySem.W
open PySem PySem.Spec PyProof.Rows PySem.Builtin
section
variable {prog : Program} {w : World} {A A₀ : Around} {E : Value → Shared → Prop} {s : Shared} {K : Frag} {x C L f : Addr} {h₀ : Heap} {m : Str → Option Value} {ox : Obj} {od : Option Obj} {name : Str} {b tb : Value}
theorem dl_ifBound_B {M : Model} {id T : String} {args : List Value} {Q : Option Value → Shared → Prop} (S : Slot T name id) (X : K.In s.heap) (I : InstAt s.heap x ox C od) (hs : findIn K (.ref C) name = some (some (.builtin id)))
    (h : wpAny M A (call (.builtin id) (.ref x :: args)) (fun v => Q (some v)) E s) : wpAny M A (callSpecialIfBound? (.ref x) name args) Q E s := by
  simp only [callSpecialIfBound?, bindSpecialIfBound?]
  refine wpAny_holding (wpAny_bind (wpAny_bind (wpAny_bind (I.type.here ((looks_findIn X hs).here ?_)))))
  simp only [S.bind]
  refine wpAny_bind (wpAny_askSetting (wpAny_ite ?_))
  have fin : wpAny M A (call (.builtin id) ([.ref x] ++ args) >>= fun v => pure (some v)) Q E s := wpAny_bind (wpAny_mono h (fun v s' h' => wpAny_pure h') fun _ _ h' => h')
  split
  · exact wpAny_bind (wpAny_pure (wpAny_pure fin))
  · exact wpAny_tryCatch (wpAny_bind (wpAny_pure (wpAny_pure fin)))
theorem dl_check_inst {M : Model} {id owner n : String} {rest : List Value} {Q : Unit → Shared → Prop} (hk : builtinKind id = some .slot) (hsp : splitId id = some (owner, n)) (ha : argsOk id ⟨.ref x :: rest, []⟩)
    (X : K.In s.heap) (I : InstAt s.heap x ox C od) (hsub : subIn K (.ref C) (.type owner) = some true) (hq : Q () s) : wpAny M A (checkBuiltinCall id ⟨.ref x :: rest, []⟩) Q E s := by
  simp only [checkBuiltinCall, hk, hsp]
  refine wpAny_bind ?_
  · unfold isInstance
    refine wpAny_bind (I.type.here ((looks_subIn X hsub).here ?_))
    first
      | (rw [if_neg (by simp)])
      | skip
    cases hsig : Manifest.signature? id with
    | none => first | exact wpAny_pure hq | exact wpAny_bind (wpAny_pure (wpAny_pure hq)) | exact wpAny_pure (wpAny_pure hq)
    | some sig =>
      simp only [argsOk, hsig] at ha
      have h2 : Bind.checkArgs id sig ⟨.ref x :: rest, []⟩ = pure () := ha
      show wpAny M A (Bind.checkArgs id sig ⟨.ref x :: rest, []⟩) Q E _
      rw [h2]; exact wpAny_pure hq
theorem dl_objNe {Q : Fin → Shared → Prop} (X : K.In s.heap) (I : InstAt s.heap x ox C od) (hs : findIn K (.ref C) "__eq__" = some (some (.ref f))) (hf : isFn K (.ref f) = true) (hu : A.units < cLine)
    (h : wpAny (model prog w) A (call (.ref f) [.ref x, b]) (fun v s' => ∃ k, v = .bool k ∧ Q (.done (.ret (.bool (!k)))) s') E s) : wpAny (model prog w) A (Builtin.«object.__ne__» ⟨[.ref x, b], []⟩) Q E s := by
  unfold Builtin.«object.__ne__»
  repeat (first
    | with_reducible refine wpAny_cRoomFor hu ?_
    | (refine wpAny_bind (m := callSpecialIfBound? (.ref x) (Str.ofString "__eq__") [b])
        (ifBound_K X I hs hf (wpAny_mono h (fun r s' hr => by
          obtain ⟨k, rfl, hq⟩ := hr
          repeat (first | exact hq | exact wpAny_pure hq | exact wpAny_truthy_bool hq | (refine wpAny_bind (m := truthy (.bool _)) (wpAny_truthy_bool ?_)) | wp_step)) fun _ _ e => e)))
    | wp_step)
theorem dl_ne {Q : Value → Shared → Prop} (hu : A.units + 1 < cLine) (Fm : Fr h₀ L s.heap m) (X₀ : K.In h₀) (I : InstAt s.heap x ox C od) (hb : Looks (model prog w) s.heap (typeOf b) tb) (hn : notFirst K C tb = true)
    (hne : findIn K (.ref C) "__ne__" = some (some (.builtin "object.__ne__"))) (hsub : subIn K (.ref C) (.type "object") = some true) (hs : findIn K (.ref C) "__eq__" = some (some (.ref f))) (hf : isFn K (.ref f) = true)
    (harg : argsOk "object.__ne__" ⟨[.ref x, b], []⟩) (h : wpAny (model prog w) A.in1 (call (.ref f) [.ref x, b]) (fun v s' => ∃ k, v = .bool k ∧ Q (.bool (!k)) s') E s) : wpAny (model prog w) A (compareOp .NotEq (.ref x) b) Q E s := by
  have X := X₀.keeps Fm.keep
  have one : wpAny (model prog w) A (tryCompare (.ref x) "__ne__" b) (fun r s' => ∃ v, r = some v ∧ Q v s') E s := by
    unfold tryCompare
    refine wpAny_bind (dl_ifBound_B PySem.F.cmp_object.ne X I hne (wpAny_call (codeAny_call_builtin PySem.F.cmp_object.ne.plain PySem.F.cmpEntry_ne (dl_check_inst PySem.F.cmpKind_ne PySem.F.cmpSplit_ne harg X I hsub (dl_objNe (A := A.in1) X I hs hf (Nat.lt_of_le_of_lt (Nat.le_refl _) hu) (wpAny_mono h (fun v s' hv => ?_) fun _ _ e => e))))))
    obtain ⟨k, rfl, hq⟩ := hv
    first | exact ⟨k, rfl, wpAny_pure ⟨_, rfl, hq⟩⟩ | exact ⟨k, rfl, wpAny_pure (wpAny_pure ⟨_, rfl, hq⟩)⟩ | exact ⟨k, rfl, ⟨_, rfl, hq⟩⟩
  unfold compareOp richCompare
  simp only [oneThing_ref]
  refine wpAny_holding (wpAny_bind (wpAny_cRoomFor (Nat.lt_of_succ_lt hu) ?_))
  rw [cmpInfo_NotEq]
  dsimp only
  refine wpAny_bind (I.type.here (wpAny_bind (hb.here ?_)))
  split
  · rename_i q
    have e : subIn K tb (.ref C) = some false := by
      rcases Bool.or_eq_true_iff.mp hn with e | e
      · rw [beq_iff_eq.mp e] at q; simp at q
      · exact beq_iff_eq.mp e
    refine wpAny_bind ((looks_subIn X e).here ?_)
    simp only [Bool.false_eq_true, if_false]
    refine wpAny_bind (wpAny_mono one (fun r s' z => ?_) fun _ _ e => e)
    obtain ⟨v, rfl, hq⟩ := z
    exact wpAny_pure hq
  · refine wpAny_bind (wpAny_pure ?_)
    simp only [Bool.false_eq_true, if_false]
    refine wpAny_bind (wpAny_mono one (fun r s' z => ?_) fun _ _ e => e)
    obtain ⟨v, rfl, hq⟩ := z
    exact wpAny_pure hq
end
end PySem.W

namespace DL
open PySem PySem.Spec PyProof.Rows L2
/-! ## properties, constants, len -/
/-- a property that gives the field -/
def HasP (P : Program) (w : World) (K : PySem.W.Frag) (mg : Str → Option Value) (base : Heap) (k : Nat) (x f : Str) : Prop := ∃ p g fd, PropOf K objC x p g ∧ FnOk P w K mg base C8.CX0 k g fd ["self"] (getSp objC f) ∧ Binds K fd ["self"] []
section
variable {X : Cx} {W : WX} {k : Nat} {x y f : Str} {py pos p : Pos} {e : Expr} {fe : S → R D}
theorem de_propO (i : Nat) (b : Bool) (oc : OC X.K) (G : HasP X.prog X.w X.K X.mg X.base k x f) (hr : Room (k + 1) X.A) (hf : f = if b = true then obf2 else obf1 := by rfl) (hN : X.N[i]? = some y := by rfl) (hv : Vis X.env.scope y := by first | exact Or.inl rfl | exact Or.inr (Or.inl rfl) | exact Or.inr (Or.inr rfl))
    (hd : (y == ("__debug__" : Str)) = false := by decide) (hcd : (y == ("__classdict__" : Str)) = false := by decide) (hb : attributeBase (.Name y py) x X.env (eval (.Name y py) X.env) = eval (.Name y py) X.env := by rfl) :
    DE X W (.Attribute (.Name y py) x pos) (fldO i b) := by
  obtain ⟨q, g, fd, hp, F, bn⟩ := G
  refine pe_imp (pe_prop (dvs := []) (ds := []) (E := C8.E0) (pv i hN hv hd hcd) oc.cls hp F hr bn .nil (fun _ _ _ _ _ _ _ z => z) hb) fun σ H Q h => ?_
  obtain ⟨va, s, HP, rl, h⟩ := h
  unfold fldO at h
  split at h
  · rename_i n p q
    obtain ⟨a, h1, h2, dx, v1, v2, h3, d1, d2⟩ := rl.ob.at_ i n p (getO_some q)
    subst hf
    cases b with
    | false => exact ⟨.ref a, h1, a, dx, _, rfl, h3, a, dx, _, v1, rfl, h3, look1 _ _, h.fin rl d1⟩
    | true => exact ⟨.ref a, h1, a, dx, _, rfl, h3, a, dx, _, v2, rfl, h3, look2 _ _, h.fin rl d2⟩
  · exact h.elim
def conO (i : Nat) (d : D) (s : S) : R D := match getO i s with
  | some _ => .ok d s
  | none => .stuck
theorem de_conO {n0 : Int} {u : Value} (i : Nat) (oc : OC X.K) (hc : Con X.K objC f (.int n0) u) (h1 : (f == obf1) = false := by decide +kernel) (h2 : (f == obf2) = false := by decide +kernel)
    (hN : X.N[i]? = some y := by rfl) (hv : Vis X.env.scope y := by first | exact Or.inl rfl | exact Or.inr (Or.inl rfl) | exact Or.inr (Or.inr rfl))
    (hd : (y == ("__debug__" : Str)) = false := by decide) (hcd : (y == ("__classdict__" : Str)) = false := by decide) (hb : attributeBase (.Name y py) f X.env (eval (.Name y py) X.env) = eval (.Name y py) X.env := by rfl) :
    DE X W (.Attribute (.Name y py) f pos) (conO i (.int n0)) := by
  refine pe_imp (pe_con (pv i hN hv hd hcd) hb) fun σ H Q h => ?_
  obtain ⟨va, s, HP, rl, h⟩ := h
  unfold conO at h
  split at h
  · rename_i np q
    obtain ⟨n, p⟩ := np
    obtain ⟨a, e1, e2, dx, v1, v2, e3, d1, d2⟩ := rl.ob.at_ i n p (getO_some q)
    exact ⟨.ref a, e1, a, objC, dx, _, .int n0, u, rfl, e3, oc.cls, hc, look_not h1 h2, h.fin rl (.int n0)⟩
  · exact h.elim
/-- what len asks of an own class -/
def rLenO (sp : Sp) : List V → Hp → VK → Prop := fun xs H Q => ∃ a dx fs, xs = [.ref a] ∧ H a = some (.ins objC dx fs) ∧ sp [.ref a] H (fun v H' => ∃ n : Int, v = .int n ∧ 0 ≤ n ∧ n < 2 ^ 63 ∧ Q (.int n) H') (fun _ _ _ => False)
theorem cx_false {P : Program} {w : World} {outer : List Env} {H : Hp} {s s' : Shared} {e : Value} (c : L2.CX P w outer H s (fun _ _ _ => False) e s') : False := by
  obtain ⟨_, _, _, _, _, _, _, _, _, _, _, _, z⟩ := c
  exact z.elim
theorem call_lenO {g : Addr} {sp : Sp} (F : FnR X.prog X.w X.K X.mg X.base (L2.CX X.prog X.w) k g sp) (hr : Room (k + 1) X.A) (hs : PySem.W.findIn X.K (.ref objC) "__len__" = some (some (.ref g))) (hf : PySem.W.isFn X.K (.ref g) = true) :
    CallR X (.builtin "len") (rLenO sp) := by
  intro pins s σ H xs us Q I rv h
  obtain ⟨a, dx, fs, rfl, ea, hsp⟩ := h
  obtain ⟨u, rfl, ru⟩ := vals1 rv
  obtain rfl : u = Value.ref a := ru
  obtain ⟨mA, O, _⟩ := ins_get I.hok ea
  obtain ⟨od, J, _⟩ := O.look
  obtain ⟨m, Fm⟩ := I.fr
  refine PySem.W.len_K Fm I.ok.mod.kin J hs hf (wpAny_call (codeAny_mono (F X.A.in1 X.stack s H [.ref a] [.ref a] _ _ hr.in1 I.env0.in1 (.cons rfl .nil) hsp) fun r s' hq => ?_))
  cases r with
  | error e => exact (cx_false hq).elim
  | ok fl =>
    cases fl with
    | ret u =>
      obtain ⟨v, H', I3, rv3, n, rfl, n0, n1, q⟩ := I.after hq
      obtain ⟨t, rfl⟩ := (show ∃ t, u = Value.int n t from rv3)
      exact ⟨⟨n0, n1⟩, .int n, H', I3.tok _, ⟨_, rfl⟩, q⟩
    | next => exact False.elim hq
    | brk => exact False.elim hq
    | cont => exact False.elim hq
def lenO (i : Nat) (mm : FMo) (s : S) : R D := match getO i s with
  | some (n, p) => match mm n p [] with
    | .ok (.int k) n' p' => if 0 ≤ k ∧ k < 2 ^ 63 then .ok (.int k) (s.put i (.obj n' p')) else .stuck
    | _ => .stuck
  | none => .stuck
theorem de_lenO {mm : FMo} (i : Nat) (G : HasO X.prog X.w X.K X.mg X.base k "__len__" ["self"] mm) (hr : Room (k + 1) X.A) (hml : X.mg "len" = none) (hN : X.N[i]? = some y := by rfl) (hv : Vis X.env.scope y := by first | exact Or.inl rfl | exact Or.inr (Or.inl rfl) | exact Or.inr (Or.inr rfl))
    (hd : (y == ("__debug__" : Str)) = false := by decide) (hcd : (y == ("__classdict__" : Str)) = false := by decide) (hg : Gl X "len" := by rfl) (hbt : bootBuiltins "len" = some (.builtin "len") := by exact PySem.boot_len)
    (hst : starEach [.Name y py] X.env = (false, eval (.Name y py) X.env) :: starEach [] X.env := by rfl) (hpl : (backTo pos (starEach [] X.env)).any (·.1) = false := by rfl) :
    DE X W (.Call (.Name "len" p) [.Name y py] [] pos) (lenO i mm) := by
  obtain ⟨g, fd, F, hm, hb⟩ := G
  refine pe_imp (pe_callB (call_lenO (fnR_of F hb) hr hm.at_ hm.fn) hg hml hbt (pa_cons (pv i hN hv hd hcd) pa_nil hst) (by decide) (by decide) hst hpl) fun σ H Q h => ?_
  obtain ⟨va, s, HP, rl, h⟩ := h
  unfold lenO at h
  split at h
  · rename_i n p q
    have q' := getO_some q
    obtain ⟨a, e1, ob⟩ := rl.ob.at_ i n p q'
    obtain ⟨e2, dx, v1, v2, e3, d1, d2⟩ := id ob
    refine ⟨.ref a, e1, a, dx, _, rfl, e3, a, HP, [], [], n, p, rfl, rfl, rl.sub, .nil, ob, rl.tab, ?_⟩
    split at h
    · rename_i k n' p' z
      rw [z]
      split at h
      · rename_i hk
        intro v H' HP' g dv
        cases dv
        exact ⟨k, rfl, hk.1, hk.2, h.fin_at (rl.calledO q' e1 g) (.int k)⟩
      · exact h.elim
    · exact h.elim
  · exact h.elim
end
end DL

namespace DL
open PySem PySem.Spec PyProof.Rows L2
/-! ## two objects -/
inductive FR2 where
  | ok (d : D) (n p n' p' : D)
  | stuck
abbrev FM2 := D → D → D → D → FR2
structure FG2 (K : PySem.W.Frag) (a b : Addr) (HP H HP' H' : Hp) (n p n' p' : D) : Prop where
  sub : Same HP' H'
  same : Same HP HP'
  keep : ∀ b o, H b = some o → NT o → H' b = some o ∧ (HP b = none → HP' b = none)
  tab : TB lamT HP' H'
  kob : ∀ c dx fs, c ≠ a → c ≠ b → H c = some (.ins objC dx fs) → HP c = none → H' c = some (.ins objC dx fs) ∧ HP' c = none
  ob1 : ObAt K HP' H' a n p
  ob2 : ObAt K HP' H' b n' p'
def sp2 (K : PySem.W.Frag) (m : FM2) : Sp := fun vs H Q _ => ∃ a b HP n p n' p', vs = [.ref a, .ref b] ∧ a ≠ b ∧ Same HP H ∧ ObAt K HP H a n p ∧ ObAt K HP H b n' p' ∧ TB lamT HP H ∧
  match m n p n' p' with
  | .ok d n1 p1 n2 p2 => ∀ v H' HP', FG2 K a b HP H HP' H' n1 p1 n2 p2 → Dv K HP' v d → Q v H'
  | .stuck => False
abbrev Fn2 (P : Program) (w : World) (K : PySem.W.Frag) (mg : Str → Option Value) (base : Heap) (k : Nat) (f : Addr) (fd : FuncData) (ps : List Str) (m : FM2) : Prop := FnOk P w K mg base (L2.CX P w) k f fd ps (sp2 K m)
def va2 (a b : Addr) : VA := ⟨0, some a, some b⟩
def st2 (N : List Str) (n p n' p' : D) : S := ⟨some (.obj n p) :: some (.obj n' p') :: List.replicate (N.length - 2) none, none⟩
theorem st2_at {N : List Str} {n p n' p' : D} {i : Nat} {x : Sl} (q : (st2 N n p n' p').sl[i]? = some (some x)) : (i = 0 ∧ x = .obj n p) ∨ (i = 1 ∧ x = .obj n' p') := by
  cases i with
  | zero => left; exact ⟨rfl, by simpa [st2] using q.symm⟩
  | succ i =>
    cases i with
    | zero => right; exact ⟨rfl, by simpa [st2] using q.symm⟩
    | succ j =>
      have q' : (List.replicate (N.length - 2) (none : Option Sl))[j]? = some (some x) := by simpa [st2] using q
      rcases rep_none (N.length - 2) j with e | e <;> rw [e] at q' <;> cases q'
theorem rel_start2 {K : PySem.W.Frag} {HP H : Hp} {a b : Addr} {N : List Str} {n p n' p' : D} (hn : 2 ≤ N.length) (sm : Same HP H) (hab : a ≠ b) (ob1 : ObAt K HP H a n p) (ob2 : ObAt K HP H b n' p') (tb : TB lamT HP H) :
    Rel K (va2 a b) (st2 N n p n' p') (start N [.ref a, .ref b]) HP H := by
  have st : start N [.ref a, .ref b] = some (.ref a) :: some (.ref b) :: List.replicate (N.length - 2) none := rfl
  rw [st]
  refine ⟨?_, sm, fun i d q => ?_, fun i ys q => ?_, fun i q => ?_, fun ys q => (by cases q), fun i j ys zs b _ q => ?_, fun i ys q => ?_, tb, ⟨fun i n1 p1 q => ?_, fun i j n1 p1 n2 p2 c ne q1 q2 q3 => ?_, fun i n1 p1 c q z => ?_⟩⟩
  · simp [st2]
  · rcases st2_at q with ⟨rfl, e⟩ | ⟨rfl, e⟩ <;> cases e
  · rcases st2_at q with ⟨rfl, e⟩ | ⟨rfl, e⟩ <;> cases e
  · rcases st2_at q with ⟨rfl, e⟩ | ⟨rfl, e⟩ <;> cases e
  · rcases st2_at q with ⟨rfl, e⟩ | ⟨rfl, e⟩ <;> cases e
  · rcases st2_at q with ⟨rfl, e⟩ | ⟨rfl, e⟩ <;> cases e
  · rcases st2_at q with ⟨rfl, e⟩ | ⟨rfl, e⟩ <;> cases e
    · exact ⟨a, rfl, ob1⟩
    · exact ⟨b, rfl, ob2⟩
  · rcases st2_at q1 with ⟨rfl, e⟩ | ⟨rfl, e⟩ <;> rcases st2_at q2 with ⟨rfl, e2⟩ | ⟨rfl, e2⟩
    · exact absurd rfl ne
    · intro q4
      have e3 : some (some (V.ref a)) = some (some (V.ref c)) := q3
      have e4 : some (some (V.ref b)) = some (some (V.ref c)) := q4
      have := e3.trans e4.symm
      injection this with this; injection this with this; injection this with this
      exact hab this
    · intro q4
      have e3 : some (some (V.ref b)) = some (some (V.ref c)) := q3
      have e4 : some (some (V.ref a)) = some (some (V.ref c)) := q4
      have := e4.trans e3.symm
      injection this with this; injection this with this; injection this with this
      exact hab this
    · exact absurd rfl ne
  · rcases st2_at q with ⟨rfl, e⟩ | ⟨rfl, e⟩ <;> cases z <;> rfl
theorem Stp.fg2 {K : PySem.W.Frag} {HP H HP' H' : Hp} {N : List Str} {n p n' p' n1 p1 n2 p2 : D} {a b : Addr} {σ' : St} {s' : S} (t : Stp K (va2 a b) (st2 N n p n' p') (start N [.ref a, .ref b]) HP H s' σ' HP' H')
    (e1 : getO 0 s' = some (n1, p1)) (e2 : getO 1 s' = some (n2, p2)) : FG2 K a b HP H HP' H' n1 p1 n2 p2 := by
  have at0 : ∀ {c : Addr}, σ'[0]? = some (some (.ref c)) → c = a := fun {c} z => by
    have := t.rel.ob.pin 0 n1 p1 a (getO_some e1) rfl
    rw [z] at this
    injection this with this; injection this with this; injection this with this
  have at1 : ∀ {c : Addr}, σ'[1]? = some (some (.ref c)) → c = b := fun {c} z => by
    have := t.rel.ob.pin 1 n2 p2 b (getO_some e2) rfl
    rw [z] at this
    injection this with this; injection this with this; injection this with this
  obtain ⟨c1, h1, o1⟩ := t.rel.ob.at_ 0 n1 p1 (getO_some e1)
  obtain ⟨c2, h2, o2⟩ := t.rel.ob.at_ 1 n2 p2 (getO_some e2)
  obtain rfl := at0 h1
  obtain rfl := at1 h2
  refine ⟨t.rel.sub, t.same, fun c o h nt => ?_, t.rel.tab, fun c dx fs ne ne' h nP => ?_, o1, o2⟩
  · obtain ⟨k1, _, k2⟩ := t.keep c o h nt fun z => by
      rcases z with ⟨i, xs, q, _⟩ | ⟨q, _⟩
      · rcases st2_at q with ⟨_, e⟩ | ⟨_, e⟩ <;> cases e
      · exact q rfl
    exact ⟨k1, k2⟩
  · obtain ⟨k1, k2, _⟩ := t.kob c dx fs h nP fun ⟨i, m1, m2, q1, q2⟩ => by
      rcases st2_at q1 with ⟨rfl, e⟩ | ⟨rfl, e⟩
      · have e3 : some (some (V.ref c1)) = some (some (V.ref c)) := q2
        injection e3 with e3; injection e3 with e3; injection e3 with e3
        exact ne e3.symm
      · have e3 : some (some (V.ref c2)) = some (some (V.ref c)) := q2
        injection e3 with e3; injection e3 with e3; injection e3 with e3
        exact ne' e3.symm
    exact ⟨k1, k2⟩
def T.fin2 : T → FR2
  | .ret d s => match getO 0 s, getO 1 s with
    | some (n, p), some (n', p') => .ok d n p n' p'
    | _, _ => .stuck
  | _ => .stuck
theorem fn_2 {P : Program} {w : World} {K : PySem.W.Frag} {mg : Str → Option Value} {base : Heap} {x qual : Str} {st : Stmt} {f : Addr} {fd : FuncData} {N ps : List Str} {k : Nat} {f' : S → T} (F : Fun K x qual st f fd) (Sc : FnScope N ps (defScope st)) (hl : ps.length = 2)
    (body : ∀ (cdv : Value) (A : Around) (outer : List Env) (s : Shared) (H : Hp) (E : XK), Room k (A.deeper (envOfC qual (defScope st) s.heap.objs.size f cdv)) →
      DSs (cxOf (L2.CX P w) P w K mg base N qual (defScope st) f cdv A outer s H E) (fun cls d _ H => E cls d H) (defBody st) f') :
    Fn2 P w K mg base (k + 1) f fd ps (fun n p n' p' => (f' (st2 N n p n' p')).fin2) := by
  refine F.okX Sc (fun vs H Q E h => ?_) (fun cdv A outer s H vs Q E hr h => ?_)
  · obtain ⟨_, _, _, _, _, _, _, e, _⟩ := h; rw [e, hl]; rfl
  · obtain ⟨a, b, HP, n, p, n', p', rfl, hab, sm, ob1, ob2, tb, po⟩ := h
    have hN : 2 ≤ N.length := by
      have := congrArg List.length Sc.pre
      rw [List.length_take] at this
      omega
    refine ⟨_, body cdv A outer s H E hr, va2 a b, st2 N n p n' p', HP, rel_start2 hN sm hab ob1 ob2 tb, ?_⟩
    dsimp only at po
    cases q : f' (st2 N n p n' p') with
    | ret d s' =>
      rw [q] at po
      unfold T.fin2 at po
      dsimp only at po
      cases e1 : getO 0 s' with
      | none => rw [e1] at po; exact po.elim
      | some u1 =>
        cases e2 : getO 1 s' with
        | none => rw [e1, e2] at po; exact po.elim
        | some u2 =>
          rw [e1, e2] at po
          exact fun v σ' H' HP' stp dv => po v H' HP' (stp.fg2 e1 e2) dv
    | next s' => rw [q] at po; exact po.elim
    | retO xs s' => rw [q] at po; exact po.elim
    | brk s' => rw [q] at po; exact po.elim
    | cnt s' => rw [q] at po; exact po.elim
    | exc x pl s' => rw [q] at po; exact po.elim
    | stuck => rw [q] at po; exact po.elim
/-- two objects are changed -/
theorem Rel.objAt2 {K : PySem.W.Frag} {va : VA} {s : S} {σ : St} {HP H HP' H' : Hp} (r : Rel K va s σ HP H) {i j : Nat} {n p n' p' n1 p1 n2 p2 : D} {a b : Addr} (hij : i ≠ j) (e : s.sl[i]? = some (some (.obj n p))) (e' : s.sl[j]? = some (some (.obj n' p'))) (ha : σ[i]? = some (some (.ref a))) (hb : σ[j]? = some (some (.ref b)))
    (g : FG2 K a b HP H HP' H' n1 p1 n2 p2) : Stp K va s σ HP H ((s.put i (.obj n1 p1)).put j (.obj n2 p2)) σ HP' H' := by
  have ow : ∀ (q : Nat) m1 m2, ((s.put i (.obj n1 p1)).put j (.obj n2 p2)).sl[q]? = some (some (.obj m1 m2)) → (q = j ∧ m1 = n2 ∧ m2 = p2) ∨ (q = i ∧ q ≠ j ∧ m1 = n1 ∧ m2 = p1) ∨ (q ≠ i ∧ q ≠ j ∧ s.sl[q]? = some (some (.obj m1 m2))) := fun q m1 m2 h => by
    by_cases h1 : q = j
    · subst h1
      have := sl_put_eq h
      injection this with z
      injection z with z1 z2
      exact .inl ⟨rfl, z1, z2⟩
    · rw [sl_put_ne h1] at h
      by_cases h2 : q = i
      · subst h2
        have := sl_put_eq h
        injection this with z
        injection z with z1 z2
        exact .inr (.inl ⟨rfl, h1, z1, z2⟩)
      · rw [sl_put_ne h2] at h; exact .inr (.inr ⟨h2, h1, h⟩)
  have any : ∀ (q : Nat) m1 m2, ((s.put i (.obj n1 p1)).put j (.obj n2 p2)).sl[q]? = some (some (.obj m1 m2)) → ∃ k1 k2, s.sl[q]? = some (some (.obj k1 k2)) := fun q m1 m2 h => by
    rcases ow q m1 m2 h with ⟨rfl, _⟩ | ⟨rfl, _⟩ | ⟨_, _, z⟩
    · exact ⟨_, _, e'⟩
    · exact ⟨_, _, e⟩
    · exact ⟨_, _, z⟩
  have oth : ∀ (q : Nat) x, ((s.put i (.obj n1 p1)).put j (.obj n2 p2)).sl[q]? = some (some x) → (∀ n p, x ≠ .obj n p) → s.sl[q]? = some (some x) := fun q x h nx => by
    by_cases h1 : q = j
    · subst h1
      have := sl_put_eq h
      exact absurd this.symm (by intro z; injection z with z; exact nx n2 p2 z.symm)
    · rw [sl_put_ne h1] at h
      by_cases h2 : q = i
      · subst h2
        have := sl_put_eq h
        exact absurd this.symm (by intro z; injection z with z; exact nx n1 p1 z.symm)
      · rw [sl_put_ne h2] at h; exact h
  refine ⟨⟨by simpa [S.put] using r.len, g.sub, fun q d h => ?_, fun q ys h => ?_, fun q h => ?_, fun ws h => ?_, fun q k ys zs c ne h1 h2 => ?_, fun q ys h => ?_, g.tab, ⟨fun q m1 m2 h => ?_, fun q k m1 m2 m3 m4 c ne h1 h2 h3 => ?_, fun q m1 m2 c h z => (by obtain ⟨_, _, h'⟩ := any q m1 m2 h; exact r.ob.pin q _ _ c h' z)⟩⟩, g.same, fun c o hc nt nb => ⟨(g.keep c o hc nt).1, fun z => nb ?_, (g.keep c o hc nt).2⟩, Iff.rfl, fun c dx fs hc nb o => ?_⟩
  · obtain ⟨v, z1, z2⟩ := r.val q d (oth q _ h (fun _ _ z => nomatch z))
    exact ⟨v, z1, Dv.mono g.same d v z2⟩
  · obtain ⟨c, vs, z1, z2, z3, hz, z4⟩ := r.own q ys (oth q _ h (fun _ _ z => nomatch z))
    exact ⟨c, vs, z1, (g.keep c _ z3 nL).2 z2, (g.keep c _ z3 nL).1, hz, DvA.mono g.same ys vs z4⟩
  · exact r.vis q (oth q _ h (fun _ _ z => nomatch z))
  · obtain ⟨z1, vs, z2, hz, z3⟩ := r.vst ws h
    exact ⟨(g.keep va.a _ z2 nL).2 z1, vs, (g.keep va.a _ z2 nL).1, hz, DvA.mono g.same ws vs z3⟩
  · exact r.dis q k ys zs c ne (oth q _ h1 (fun _ _ z => nomatch z)) (oth k _ h2 (fun _ _ z => nomatch z))
  · exact r.dvi q ys (oth q _ h (fun _ _ z => nomatch z))
  · rcases ow q m1 m2 h with ⟨rfl, rfl, rfl⟩ | ⟨rfl, _, rfl, rfl⟩ | ⟨n3, n4, h'⟩
    · exact ⟨b, hb, g.ob2⟩
    · exact ⟨a, ha, g.ob1⟩
    · obtain ⟨c, z1, z2, dx, v1, v2, z3, d1, d2⟩ := r.ob.at_ q m1 m2 h'
      have ne1 : c ≠ a := fun z => by subst z; exact r.ob.dis q i m1 m2 n p c n3 h' e z1 ha
      have ne2 : c ≠ b := fun z => by subst z; exact r.ob.dis q j m1 m2 n' p' c n4 h' e' z1 hb
      obtain ⟨k1, k2⟩ := g.kob c dx _ ne1 ne2 z3 z2
      exact ⟨c, z1, k2, dx, v1, v2, k1, Dv.mono g.same m1 v1 d1, Dv.mono g.same m2 v2 d2⟩
  · obtain ⟨_, _, h1'⟩ := any q m1 m2 h1
    obtain ⟨_, _, h2'⟩ := any k m3 m4 h2
    exact r.ob.dis q k _ _ _ _ c ne h1' h2' h3
  · rcases z with ⟨q, ys, h1, h2⟩ | z
    · exact .inl ⟨q, ys, oth q _ h1 (fun _ _ z => nomatch z), h2⟩
    · exact .inr z
  · have ne1 : c ≠ a := fun z => o ⟨i, n, p, e, by rw [z]; exact ha⟩
    have ne2 : c ≠ b := fun z => o ⟨j, n', p', e', by rw [z]; exact hb⟩
    obtain ⟨k1, k2⟩ := g.kob c dx fs ne1 ne2 hc nb
    refine ⟨k1, k2, fun ⟨q, m1, m2, h1, h2⟩ => o ?_⟩
    obtain ⟨m3, m4, h1'⟩ := any q m1 m2 h1
    exact ⟨q, m3, m4, h1', h2⟩
/-! ## own == and != -/
def rCmpO (sp : Sp) (g : Bool → Bool) : R2 := fun x y H Q => ∃ a b dx fs dy gs, x = .ref a ∧ y = .ref b ∧ H a = some (.ins objC dx fs) ∧ H b = some (.ins objC dy gs) ∧ sp [.ref a, .ref b] H (fun v H' => ∃ k, v = .bl k ∧ Q (.bl (g k)) H') (fun _ _ _ => False)
/-- what the class must have for == and != -/
structure CmpO (K : PySem.W.Frag) (g : Addr) : Prop where
  eq : PySem.W.findIn K (.ref objC) "__eq__" = some (some (.ref g))
  fn : PySem.W.isFn K (.ref g) = true
  ne : PySem.W.findIn K (.ref objC) "__ne__" = some (some (.builtin "object.__ne__"))
  sub : PySem.W.subIn K (.ref objC) (.type "object") = some true
section
variable {X : Cx} {W : WX} {k : Nat} {g : Addr} {sp : Sp}
theorem op_eqO (F : FnR X.prog X.w X.K X.mg X.base (L2.CX X.prog X.w) k g sp) (hr : Room k X.A) (c : CmpO X.K g) : OpR X (compareOp .Eq) (rCmpO sp id) := by
  rintro pins s σ H x y v u Q I rx ry ⟨a, b, dx, fs, dy, gs, rfl, rfl, ha, hb, hsp⟩
  obtain rfl : v = Value.ref a := rx
  obtain rfl : u = Value.ref b := ry
  obtain ⟨mA, J, _⟩ := ins_get I.hok ha
  obtain ⟨mB, J', _⟩ := ins_get I.hok hb
  obtain ⟨od, J, _⟩ := J.look
  obtain ⟨od', J', _⟩ := J'.look
  obtain ⟨m, hF⟩ := I.fr
  show wpAny (model X.prog X.w) X.A (richCompare .Eq (.ref a) (.ref b)) _ _ _
  refine PySem.W.cmp_K (op := .Eq) (tb := .ref objC) hr.units0 hF I.ok.mod.kin J J'.type (by simp [PySem.W.notFirst]) c.eq c.fn (wpAny_call (codeAny_mono (F X.A X.stack s H [.ref a, .ref b] [.ref a, .ref b] _ _ hr I.env0 (.cons rfl (.cons rfl .nil)) hsp) fun r s' hq => ?_))
  cases r with
  | error e => exact (cx_false hq).elim
  | ok fl =>
    cases fl with
    | ret w =>
      obtain ⟨z, H', I', rz, q, rfl, hQ⟩ := I.after hq
      cases rz
      exact ⟨.bl q, H', I', rfl, hQ⟩
    | next => exact False.elim hq
    | brk => exact False.elim hq
    | cont => exact False.elim hq
theorem op_neO (F : FnR X.prog X.w X.K X.mg X.base (L2.CX X.prog X.w) k g sp) (hr : Room (k + 1) X.A) (c : CmpO X.K g) : OpR X (compareOp .NotEq) (rCmpO sp not) := by
  rintro pins s σ H x y v u Q I rx ry ⟨a, b, dx, fs, dy, gs, rfl, rfl, ha, hb, hsp⟩
  obtain rfl : v = Value.ref a := rx
  obtain rfl : u = Value.ref b := ry
  obtain ⟨mA, J, _⟩ := ins_get I.hok ha
  obtain ⟨mB, J', _⟩ := ins_get I.hok hb
  obtain ⟨od, J, _⟩ := J.look
  obtain ⟨od', J', _⟩ := J'.look
  obtain ⟨m, hF⟩ := I.fr
  refine PySem.W.dl_ne (tb := .ref objC) (by have := hr.un; omega) hF I.ok.mod.kin J J'.type (by simp [PySem.W.notFirst]) c.ne c.sub c.eq c.fn (PySem.F.cmpArgs_ne _ _) (wpAny_call (codeAny_mono (F X.A.in1 X.stack s H [.ref a, .ref b] [.ref a, .ref b] _ _ hr.in1 I.env0.in1 (.cons rfl (.cons rfl .nil)) hsp) fun r s' hq => ?_))
  cases r with
  | error e => exact (cx_false hq).elim
  | ok fl =>
    cases fl with
    | ret w =>
      obtain ⟨z, H', I', rz, q, rfl, hQ⟩ := I.after hq
      cases rz
      exact ⟨q, rfl, .bl (!q), H', I', rfl, hQ⟩
    | next => exact False.elim hq
    | brk => exact False.elim hq
    | cont => exact False.elim hq
end
def Has2 (P : Program) (w : World) (K : PySem.W.Frag) (mg : Str → Option Value) (base : Heap) (k : Nat) (ps : List Str) (m : FM2) : Prop := ∃ f fd, Fn2 P w K mg base k f fd ps m ∧ CmpO K f ∧ Binds K fd ps []
def cmp2 (i j : Nat) (m : FM2) (g : Bool → Bool) (s : S) : R D := if i ≠ j then (match getO i s, getO j s with
  | some (n, p), some (n', p') => match m n p n' p' with
    | .ok (.bl k) n1 p1 n2 p2 => .ok (.bl (g k)) ((s.put i (.obj n1 p1)).put j (.obj n2 p2))
    | _ => .stuck
  | _, _ => .stuck) else .stuck
section
variable {X : Cx} {W : WX} {k : Nat} {y z : Str} {py pz pos : Pos} {ps : List Str} {m : FM2}
theorem cmp2_po {va : VA} {s : S} {σ : St} {HP H : Hp} {i j : Nat} {Q : VK} {g : Bool → Bool} (rl : Rel X.K va s σ HP H) (h : PoE X W va s σ HP H (cmp2 i j m g s) Q) :
    ∃ a b, σ[i]? = some (some (.ref a)) ∧ σ[j]? = some (some (.ref b)) ∧ rCmpO (sp2 X.K m) g (.ref a) (.ref b) H Q := by
  unfold cmp2 at h
  split at h
  · rename_i hij
    split at h
    · rename_i n p n' p' q1 q2
      have q1' := getO_some q1
      have q2' := getO_some q2
      obtain ⟨a, e1, o1⟩ := rl.ob.at_ i n p q1'
      obtain ⟨b, e2, o2⟩ := rl.ob.at_ j n' p' q2'
      have hab : a ≠ b := fun z => by subst z; exact rl.ob.dis i j n p n' p' a hij q1' q2' e1 e2
      obtain ⟨_, dx, v1, v2, h3, _⟩ := id o1
      obtain ⟨_, dy, w1, w2, h4, _⟩ := id o2
      refine ⟨a, b, e1, e2, a, b, dx, _, dy, _, rfl, rfl, h3, h4, a, b, HP, n, p, n', p', rfl, hab, rl.sub, o1, o2, rl.tab, ?_⟩
      split at h
      · rename_i k n1 p1 n2 p2 z
        rw [z]
        intro v H' HP' fg dv
        cases dv
        exact ⟨k, rfl, h.fin_at (rl.objAt2 hij q1' q2' e1 e2 fg) (.bl (g k))⟩
      · exact h.elim
    · exact h.elim
  · exact h.elim
theorem de_eqO (i j : Nat) (G : Has2 X.prog X.w X.K X.mg X.base k ps m) (hr : Room k X.A) (hN : X.N[i]? = some y := by rfl) (hv : Vis X.env.scope y := by first | exact Or.inl rfl | exact Or.inr (Or.inl rfl) | exact Or.inr (Or.inr rfl)) (hd : (y == ("__debug__" : Str)) = false := by decide) (hcd : (y == ("__classdict__" : Str)) = false := by decide)
    (hN2 : X.N[j]? = some z := by rfl) (hv2 : Vis X.env.scope z := by first | exact Or.inl rfl | exact Or.inr (Or.inl rfl) | exact Or.inr (Or.inr rfl)) (hd2 : (z == ("__debug__" : Str)) = false := by decide) (hcd2 : (z == ("__classdict__" : Str)) = false := by decide) :
    DE X W (.Compare (.Name y py) [.Eq] [.Name z pz] pos) (cmp2 i j m id) := by
  obtain ⟨f, fd, F, c, hb⟩ := G
  refine pe_imp (pe_cmpR (op_eqO (fnR_of F hb) hr c) (pv i hN hv hd hcd) (pv j hN2 hv2 hd2 hcd2) (nomark _)) fun σ H Q h => ?_
  obtain ⟨va, s, HP, rl, h⟩ := h
  obtain ⟨a, b, e1, e2, q⟩ := cmp2_po rl h
  exact ⟨.ref a, e1, .ref b, e2, q⟩
theorem de_neO (i j : Nat) (G : Has2 X.prog X.w X.K X.mg X.base k ps m) (hr : Room (k + 1) X.A) (hN : X.N[i]? = some y := by rfl) (hv : Vis X.env.scope y := by first | exact Or.inl rfl | exact Or.inr (Or.inl rfl) | exact Or.inr (Or.inr rfl)) (hd : (y == ("__debug__" : Str)) = false := by decide) (hcd : (y == ("__classdict__" : Str)) = false := by decide)
    (hN2 : X.N[j]? = some z := by rfl) (hv2 : Vis X.env.scope z := by first | exact Or.inl rfl | exact Or.inr (Or.inl rfl) | exact Or.inr (Or.inr rfl)) (hd2 : (z == ("__debug__" : Str)) = false := by decide) (hcd2 : (z == ("__classdict__" : Str)) = false := by decide) :
    DE X W (.Compare (.Name y py) [.NotEq] [.Name z pz] pos) (cmp2 i j m not) := by
  obtain ⟨f, fd, F, c, hb⟩ := G
  refine pe_imp (pe_cmpR (op_neO (fnR_of F hb) hr c) (pv i hN hv hd hcd) (pv j hN2 hv2 hd2 hcd2) (nomark _)) fun σ H Q h => ?_
  obtain ⟨va, s, HP, rl, h⟩ := h
  obtain ⟨a, b, e1, e2, q⟩ := cmp2_po rl h
  exact ⟨.ref a, e1, .ref b, e2, q⟩
/-- isinstance(o, C), o the object of slot i -/
theorem de_isO (i : Nat) (ic : C8.InsC X.K objC) (hm : X.mg "isinstance" = none) {c : Str} (hc : X.mg c = some (.ref objC)) {p pc : Pos} (hN : X.N[i]? = some y := by rfl) (hv : Vis X.env.scope y := by first | exact Or.inl rfl | exact Or.inr (Or.inl rfl) | exact Or.inr (Or.inr rfl)) (hd : (y == ("__debug__" : Str)) = false := by decide) (hcd : (y == ("__classdict__" : Str)) = false := by decide)
    (hg : Gl X "isinstance" := by rfl) (hgc : Gl X c := by rfl) (hdc : (c == ("__debug__" : Str)) = false := by decide) (hb : bootBuiltins "isinstance" = some (.builtin "isinstance") := by decide +kernel)
    (he : starEach [.Name y py, .Name c pc] X.env = (false, eval (.Name y py) X.env) :: starEach [.Name c pc] X.env := by rfl) (he2 : starEach [.Name c pc] X.env = (false, eval (.Name c pc) X.env) :: starEach [] X.env := by rfl) (hpl : (backTo pos (starEach [.Name c pc] X.env)).any (·.1) = false := by rfl) :
    DE X W (.Call (.Name "isinstance" p) [.Name y py, .Name c pc] [] pos) (conO i (.bl true)) := by
  refine pe_imp (pe_callB (C8.call_isC ic) hg hm hb (pa_cons (pv i hN hv hd hcd) (pa_cons (pe_glob (v := .ref objC) hgc hc rfl hdc) pa_nil he2) he) (by decide) (by decide) he hpl) fun σ H Q h => ?_
  obtain ⟨va, s, HP, rl, h⟩ := h
  unfold conO at h
  split at h
  · rename_i np q
    obtain ⟨n, p⟩ := np
    obtain ⟨a, e1, e2, dx, v1, v2, e3, d1, d2⟩ := rl.ob.at_ i n p (getO_some q)
    exact ⟨.ref a, e1, a, dx, _, rfl, e3, h.fin rl (.bl true)⟩
  · exact h.elim
end
end DL

namespace DL
open PySem PySem.Spec PyProof.Rows L2
/-! ## o += e -/
def rIaddO (sp : Sp) : V → V → Hp → VK → Prop := fun x y H Q => ∃ a dx fs, x = .ref a ∧ H a = some (.ins objC dx fs) ∧ sp [.ref a, y] H Q (fun _ _ _ => False)
structure IaddO (K : PySem.W.Frag) (g : Addr) : Prop where
  at_ : PySem.W.findIn K (.ref objC) "__iadd__" = some (some (.ref g))
  fn : PySem.W.isFn K (.ref g) = true
  first : PySem.W.selfFirst K objC = true
def iaddO (i : Nat) (mm : FMo) (d : D) (s : S) : T := match getO i s with
  | some (n, p) => match mm n p [d] with
    | .self n' p' => .next (s.put i (.obj n' p'))
    | _ => .stuck
  | none => .stuck
def HasIa (P : Program) (w : World) (K : PySem.W.Frag) (mg : Str → Option Value) (base : Heap) (k : Nat) (ps : List Str) (m : FMo) : Prop := ps.length = 2 ∧ ∃ f fd, FnO P w K mg base k f fd ps m ∧ IaddO K f ∧ Binds K fd ps []
theorem set_self {σ : L2.St} {i : Nat} {v : Option V} (h : σ[i]? = some v) : σ.set i v = σ := by
  apply List.ext_getElem?
  intro j
  by_cases e : j = i
  · subst e
    obtain ⟨hl, _⟩ := List.getElem?_eq_some_iff.mp h
    rw [List.getElem?_set_self hl, h]
  · rw [List.getElem?_set_ne (Ne.symm e)]
section
variable {X : Cx} {W : WX} {k : Nat} {g : Addr} {sp : Sp} {e : Expr} {fe : S → R D} {y : Str} {py pos : Pos} {ps : List Str} {mm : FMo}
theorem pip_O (F : FnR X.prog X.w X.K X.mg X.base (L2.CX X.prog X.w) k g sp) (hr : Room k X.A) (c : IaddO X.K g) : PIp X .Add (rIaddO sp) := by
  rintro pins s σ H x z v u Q I rx rz ⟨a, dx, fs, rfl, ha, hsp⟩
  obtain rfl : v = Value.ref a := rx
  obtain ⟨mA, J, _⟩ := ins_get I.hok ha
  obtain ⟨od, J, _⟩ := J.look
  obtain ⟨m, hF⟩ := I.fr
  refine PySem.W.ksp_inplace hF I.ok.mod.kin J c.first c.at_ c.fn (wpAny_call (codeAny_mono (F X.A X.stack s H [.ref a, u] [.ref a, z] _ _ hr I.env0 (.cons rfl (.cons rz .nil)) hsp) fun r s' hq => ?_))
  cases r with
  | error e => exact (cx_false hq).elim
  | ok fl =>
    cases fl with
    | ret w =>
      have q := I.after hq
      obtain ⟨z2, H', I', rz2, q2⟩ := id q
      exact SlX.cmpback rz2 (P := fun v s' => EP X pins σ Q v s') ⟨z2, H', I', rz2, q2⟩
    | next => exact False.elim hq
    | brk => exact False.elim hq
    | cont => exact False.elim hq
theorem ds_iaddO (i : Nat) (G : HasIa X.prog X.w X.K X.mg X.base k ps mm) (hr : Room k X.A) (hN : X.N.Nodup) (he : DE X W e fe) (hi : X.N[i]? = some y := by rfl) (hx : Loc X.env.scope y := by first | exact Or.inl rfl | exact Or.inr rfl)
    (hf : X.fn y = true ∨ X.env.scope.names.lookup y = some .local := by first | exact .inl rfl | exact .inr rfl | assumption) :
    DS X W (.AugAssign (.Name y py) .Add e pos) (fun s => if (getO i s).isSome = true then (fe s).thn (iaddO i mm) else .stuck) := by
  obtain ⟨hl, f, fd, F, c, hb⟩ := G
  refine ps_imp (ps_aug hN hi hx he (pip_O (fnR_of F hb) hr c) hf) fun D σ H h => ?_
  obtain ⟨va, s, HP, rl, h⟩ := h
  dsimp only at h
  split at h
  · rename_i ho
    obtain ⟨⟨n, p⟩, q⟩ := Option.isSome_iff_exists.mp ho
    obtain ⟨a, e1, _⟩ := rl.ob.at_ i n p (getO_some q)
    refine ⟨.ref a, e1, bindES rl h fun d s1 v H1 HP1 st1 dv h1 => ?_⟩
    unfold iaddO at h1
    split at h1
    · rename_i n1 p1 q1
      have q1' := getO_some q1
      obtain ⟨b, e2, ob⟩ := st1.rel.ob.at_ i n1 p1 q1'
      rw [e1] at e2
      injection e2 with e2; injection e2 with e2; injection e2 with e2
      subst e2
      obtain ⟨_, dx, v1, v2, h3, _⟩ := id ob
      refine ⟨a, dx, _, rfl, h3, a, HP1, [d], [v], n1, p1, rfl, hl.symm, st1.rel.sub, .cons dv .nil, ob, st1.rel.tab, ?_⟩
      split at h1
      · rename_i n' p' z
        rw [z]
        intro H' HP' g
        show D.nx (σ.set i (some (.ref a))) H'
        rw [set_self e1]
        exact h1 σ H' HP' (st1.rel.calledO q1' e1 g)
      · exact h1.elim
    · exact h1.elim
  · exact h.elim
end
/-! ## new objects -/
inductive FRi where
  | ok (n p : D)
  | stuck
abbrev FMi := List D → FRi
def spI (K : PySem.W.Frag) (n : Nat) (m : FMi) : Sp := fun vs H Q _ => ∃ a HP ds vs' dx, vs = .ref a :: vs' ∧ vs.length = n ∧ Same HP H ∧ DvA K HP vs' ds ∧ HP a = none ∧ H a = some (.ins objC dx []) ∧ TB lamT HP H ∧
  match m ds with
  | .ok n p => ∀ H' HP', FGo K a HP H HP' H' n p → Q .non H'
  | .stuck => False
section
variable {K : PySem.W.Frag} {va : VA} {s : S} {σ : St} {HP H : Hp}
/-- an object that no slot holds is changed -/
theorem Rel.freeO (r : Rel K va s σ HP H) {a dx : Addr} {fs fs' : List (Str × V)} (no : ¬ OwnB s σ a) (nP : HP a = none) (hH : H a = some (.ins objC dx fs)) : Rel K va s σ HP (upd H a (.ins objC dx fs')) := by
  have nl : ∀ b vs, H b = some (.lst vs) → b ≠ a := fun b vs e z => by rw [z, hH] at e; cases e
  refine ⟨r.len, fun b x q => by rw [upd_ne (ne_of_none q nP)]; exact r.sub b x q, r.val, fun i xs q => ?_, r.vis, fun xs q => ?_, r.dis, r.dvi, ⟨tab_upd' r.tab.t hH (.inr ⟨_, _, rfl⟩), r.tab.n⟩, ⟨fun i n p q => ?_, r.ob.dis, r.ob.pin⟩⟩
  · obtain ⟨b, vs, h1, h2, h3, h4⟩ := r.own i xs q
    exact ⟨b, vs, h1, h2, by rw [upd_ne (nl b vs h3)]; exact h3, h4⟩
  · obtain ⟨h1, vs, h2, h3⟩ := r.vst xs q
    exact ⟨h1, vs, by rw [upd_ne (nl _ vs h2)]; exact h2, h3⟩
  · obtain ⟨b, h1, h2, dy, v1, v2, h3, h4⟩ := r.ob.at_ i n p q
    have ne : b ≠ a := fun z => no ⟨i, n, p, q, by rw [← z]; exact h1⟩
    exact ⟨b, h1, h2, dy, v1, v2, by rw [upd_ne ne]; exact h3, h4⟩
/-- nothing that was there before and that no slot holds -/
def NewIn (s : S) (σ : St) (HP H : Hp) (a : Addr) : Prop := ∀ dx fs, H a = some (.ins objC dx fs) → HP a = none → ¬ OwnB s σ a → False
/-- a new object comes into slot i -/
theorem Stp.take {s0 : S} {σ0 : St} {HP0 H0 : Hp} (t : Stp K va s0 σ0 HP0 H0 s σ HP H) {a : Addr} {n p : D} (i : Nat) (h0 : NewIn s0 σ0 HP0 H0 a) (ob : ObAt K HP H a n p) (no : ¬ OwnB s σ a) (np : va.pin i = none) :
    Stp K va s0 σ0 HP0 H0 (s.put i (.obj n p)) (σ.set i (some (.ref a))) HP H := by
  have r := t.rel
  have lt : ∀ {y : Sl}, (s.put i y).sl[i]? ≠ none → i < σ.length := fun {y} q => by
    have : i < (s.put i y).sl.length := by
      rcases Nat.lt_or_ge i (s.put i y).sl.length with z | z
      · exact z
      · exact absurd (List.getElem?_eq_none_iff.mpr z) q
    simpa [S.put, r.len] using this
  have at_i : ∀ {y : Sl}, (s.put i y).sl[i]? ≠ none → (σ.set i (some (V.ref a)))[i]? = some (some (.ref a)) := fun q => List.getElem?_set_self (lt q)
  have ow : ∀ (j : Nat) n1 p1, (s.put i (.obj n p)).sl[j]? = some (some (.obj n1 p1)) → (j = i ∧ n1 = n ∧ p1 = p) ∨ (j ≠ i ∧ s.sl[j]? = some (some (.obj n1 p1))) := fun j n1 p1 q => by
    by_cases h : j = i
    · subst h
      have := sl_put_eq q
      injection this with e
      injection e with e1 e2
      exact .inl ⟨rfl, e1, e2⟩
    · rw [sl_put_ne h] at q; exact .inr ⟨h, q⟩
  have oth : ∀ (j : Nat) x, (s.put i (.obj n p)).sl[j]? = some (some x) → (∀ n p, x ≠ .obj n p) → j ≠ i ∧ s.sl[j]? = some (some x) := fun j x q nx => by
    by_cases h : j = i
    · subst h
      have := sl_put_eq q
      exact absurd this.symm (by intro z; injection z with z; exact nx n p z.symm)
    · rw [sl_put_ne h] at q; exact ⟨h, q⟩
  have fr : ∀ (j : Nat) n1 p1 b, s.sl[j]? = some (some (.obj n1 p1)) → σ[j]? = some (some (.ref b)) → b ≠ a := fun j n1 p1 b q1 q2 z => no ⟨j, n1, p1, q1, by rw [← z]; exact q2⟩
  have own' : ∀ b, Owns va (s.put i (.obj n p)) (σ.set i (some (.ref a))) b → Owns va s σ b := fun b z => by
    rcases z with ⟨j, ys, q1, q2⟩ | z
    · obtain ⟨nj, q1'⟩ := oth j _ q1 (fun _ _ z => nomatch z)
      rw [st_put_ne nj] at q2
      exact .inl ⟨j, ys, q1', q2⟩
    · exact .inr z
  refine ⟨⟨by simpa [S.put] using r.len, r.sub, fun j d q => ?_, fun j ys q => ?_, fun j q => ?_, r.vst, fun j k ys zs b ne q1 q2 q3 => ?_, fun j ys q nv => ?_, r.tab, ⟨fun j n1 p1 q => ?_, fun j k n1 p1 n2 p2 b ne q1 q2 q3 => ?_, fun j n1 p1 b q z => ?_⟩⟩, t.same, fun b o hb nt nb => ?_, t.via, fun b dx fs hb nb o => ?_⟩
  · obtain ⟨nj, q'⟩ := oth j _ q (fun _ _ z => nomatch z)
    obtain ⟨v, h1, h2⟩ := r.val j d q'
    exact ⟨v, by rw [st_put_ne nj]; exact h1, h2⟩
  · obtain ⟨nj, q'⟩ := oth j _ q (fun _ _ z => nomatch z)
    obtain ⟨b, vs, h1, h2⟩ := r.own j ys q'
    exact ⟨b, vs, by rw [st_put_ne nj]; exact h1, h2⟩
  · obtain ⟨nj, q'⟩ := oth j _ q (fun _ _ z => nomatch z)
    rw [st_put_ne nj]; exact r.vis j q'
  · obtain ⟨nj, q1'⟩ := oth j _ q1 (fun _ _ z => nomatch z)
    obtain ⟨nk, q2'⟩ := oth k _ q2 (fun _ _ z => nomatch z)
    rw [st_put_ne nj] at q3
    rw [st_put_ne nk]
    exact r.dis j k ys zs b ne q1' q2' q3
  · obtain ⟨nj, q'⟩ := oth j _ q (fun _ _ z => nomatch z)
    rw [st_put_ne nj]
    exact r.dvi j ys q' nv
  · rcases ow j n1 p1 q with ⟨rfl, rfl, rfl⟩ | ⟨nj, q'⟩
    · exact ⟨a, at_i (by rw [q]; simp), ob⟩
    · obtain ⟨b, h1, h2⟩ := r.ob.at_ j n1 p1 q'
      exact ⟨b, by rw [st_put_ne nj]; exact h1, h2⟩
  · rcases ow j n1 p1 q1 with ⟨rfl, rfl, rfl⟩ | ⟨nj, q1'⟩
    · rcases ow k n2 p2 q2 with ⟨rfl, rfl, rfl⟩ | ⟨nk, q2'⟩
      · exact absurd rfl ne
      · rw [at_i (by rw [q1]; simp)] at q3
        rw [st_put_ne nk]
        intro q4
        injection q3 with q3; injection q3 with q3; injection q3 with q3
        exact fr k n2 p2 b q2' q4 q3.symm
    · rw [st_put_ne nj] at q3
      rcases ow k n2 p2 q2 with ⟨rfl, rfl, rfl⟩ | ⟨nk, q2'⟩
      · rw [at_i (by rw [q2]; simp)]
        intro q4
        injection q4 with q4; injection q4 with q4; injection q4 with q4
        exact fr j n1 p1 b q1' q3 q4.symm
      · rw [st_put_ne nk]
        exact r.ob.dis j k n1 p1 n2 p2 b ne q1' q2' q3
  · rcases ow j n1 p1 q with ⟨rfl, _⟩ | ⟨nj, q'⟩
    · rw [np] at z; cases z
    · rw [st_put_ne nj]; exact r.ob.pin j _ _ b q' z
  · obtain ⟨k1, k2, k3⟩ := t.keep b o hb nt nb
    exact ⟨k1, fun z => k2 (own' b z), k3⟩
  · obtain ⟨k1, k2, k3⟩ := t.kob b dx fs hb nb o
    refine ⟨k1, k2, fun ⟨j, n1, p1, q1, q2⟩ => ?_⟩
    rcases ow j n1 p1 q1 with ⟨rfl, rfl, rfl⟩ | ⟨nj, q1'⟩
    · rw [at_i (by rw [q1]; simp)] at q2
      injection q2 with q2; injection q2 with q2; injection q2 with q2
      rw [← q2] at hb nb o; exact h0 dx fs hb nb o
    · rw [st_put_ne nj] at q2
      exact k3 ⟨j, n1, p1, q1', q2⟩
end
/-- self.f1 = .., self.f2 = .. in a new object, behind a first statement -/
def tInit (X : Cx) (W : WX) (f1 : S → T) (f2 f3 : S → R D) : TS := fun D σ H => ∃ va s HP a dx, Rel X.K va s σ HP H ∧ s.sl[0]? = some (some (.val (.ref a))) ∧ H a = some (.ins objC dx []) ∧ HP a = none ∧ (∀ b, ¬ OwnB s σ b) ∧ Owns va s σ = (fun _ => False) ∧
  ∃ n p, f1 s = .next s ∧ f2 s = .ok n s ∧ f3 s = .ok p s ∧ ∀ σ' H' HP', FGo X.K a HP H HP' H' n p → D.nx σ' H'
theorem pss_init {X : Cx} {W : WX} {st1 : Stmt} {e2 e3 : Expr} {f1 : S → T} {f2 f3 : S → R D} {y : Str} {py py' q1 q2 p1 p2 : Pos} {g1 g2 : Str} (oc : OC X.K) (h1 : DS X W st1 f1) (h2 : DE X W e2 f2) (h3 : DE X W e3 f3) (hg1 : g1 = obf1 := by rfl) (hg2 : g2 = obf2 := by rfl)
    (hN : X.N[0]? = some y := by rfl) (hv : Vis X.env.scope y := by first | exact Or.inl rfl | exact Or.inr (Or.inl rfl) | exact Or.inr (Or.inr rfl)) (hd : (y == ("__debug__" : Str)) = false := by decide) (hcd : (y == ("__classdict__" : Str)) = false := by decide)
    (hs1 : swapsWith e2 (some (.Attribute (.Name y py) g1 p1)) q1.line X.env = pure false := by rfl) (hs2 : swapsWith e3 (some (.Attribute (.Name y py') g2 p2)) q2.line X.env = pure false := by rfl) :
    PSs X [st1, .Assign [.Attribute (.Name y py) g1 p1] e2 q1, .Assign [.Attribute (.Name y py') g2 p2] e3 q2] (tInit X W f1 f2 f3) := by
  subst hg1 hg2
  refine pss_imp (pss_cons h1 (pss_cons (ps_fld (pv 0 hN hv hd hcd) h2 hs1) (pss_one (ps_fld (pv 0 hN hv hd hcd) h3 hs2)))) fun D σ H h => ?_
  obtain ⟨va, s, HP, a, dx, rl, s0, hH, nP, nob, now, n, p, e1, e2', e3', hD⟩ := h
  have nos : ∀ b, ¬ Owns va s σ b := fun b z => by rw [now] at z; exact z
  refine ⟨va, s, HP, rl, ?_⟩
  rw [e1]
  intro σ1 H1 HP1 st1
  obtain ⟨k1, k2, k3⟩ := st1.kob a dx [] hH nP (nob a)
  have at0 : ∀ {σ' : L2.St} {HP' H' : Hp}, Rel X.K va s σ' HP' H' → σ'[0]? = some (some (.ref a)) := fun r => by
    obtain ⟨v, z1, z2⟩ := r.val 0 _ s0
    cases z2
    exact z1
  refine ⟨va, s, HP1, st1.rel, ?_⟩
  rw [e2']
  intro v2 H2 HP2 st2 d2
  obtain ⟨m1, m2, m3⟩ := st2.kob a dx [] k1 k2 k3
  refine ⟨.ref a, at0 st2.rel, a, objC, dx, [], rfl, m1, oc.cls, oc.n1, by simp, ?_⟩
  have r3 := st2.rel.freeO (fs' := putF obf1 v2 []) m3 m2 m1
  refine ⟨va, s, HP2, r3, ?_⟩
  rw [e3']
  intro v3 H3 HP3 st3 d3
  obtain ⟨l1, l2, l3⟩ := st3.kob a dx _ upd_same m2 m3
  refine ⟨.ref a, at0 st3.rel, a, objC, dx, _, rfl, l1, oc.cls, oc.n2, by unfold putF; simp, ?_⟩
  have r4 := st3.rel.freeO (fs' := putF obf2 v3 (putF obf1 v2 [])) l3 l2 l1
  have ef : putF obf2 v3 (putF obf1 v2 []) = obFs v2 v3 := by
    unfold putF putF; simp [obFs, obf_ne', Ne.symm obf_ne', putF]
  rw [ef] at r4 ⊢
  refine hD σ1 _ HP3 ⟨r4.sub, (st1.same.trans st2.same).trans st3.same, fun b o hb nt => ?_, r4.tab, fun b dy fs ne hb nb => ?_, ⟨l2, dx, v2, v3, upd_same, Dv.mono st3.same n v2 d2, d3⟩⟩
  · have neA : b ≠ a := fun z => by rw [z, hH] at hb; cases hb; exact nt.2.2 _ _ rfl
    have no1 : ¬ Owns va s σ1 b := (st1.keep b o hb nt (nos b)).2.1
    obtain ⟨c1, c2, c3⟩ := st1.keep b o hb nt (nos b)
    obtain ⟨c4, c5, c6⟩ := st2.keep b o c1 nt no1
    have c4' : upd H2 a (.ins objC dx (putF obf1 v2 [])) b = some o := by rw [upd_ne neA]; exact c4
    obtain ⟨c7, c8, c9⟩ := st3.keep b o c4' nt c5
    exact ⟨by rw [upd_ne neA]; exact c7, fun z => c9 (c6 (c3 z))⟩
  · obtain ⟨c1, c2, c3⟩ := st1.kob b dy fs hb nb (nob b)
    obtain ⟨c4, c5, c6⟩ := st2.kob b dy fs c1 c2 c3
    have c4' : upd H2 a (.ins objC dx (putF obf1 v2 [])) b = some (.ins objC dy fs) := by rw [upd_ne ne]; exact c4
    obtain ⟨c7, c8, c9⟩ := st3.kob b dy fs c4' c5 c6
    exact ⟨by rw [upd_ne ne]; exact c7, c8⟩
end DL

namespace DL
open PySem PySem.Spec PyProof.Rows L2
/-! ## making objects -/
section
variable {K : PySem.W.Frag} {va : VA} {s s0 : S} {σ σ0 : St} {HP H HP' H' HP0 H0 : Hp} {a b : Addr} {n p n' p' n1 p1 n2 p2 : D}
/-- a call that was given an object of no slot -/
theorem Stp.calledF (t : Stp K va s0 σ0 HP0 H0 s σ HP H) (h0 : NewIn s0 σ0 HP0 H0 a) (no : ¬ OwnB s σ a) (g : FGo K a HP H HP' H' n p) : Stp K va s0 σ0 HP0 H0 s σ HP' H' := by
  have r := t.rel
  refine ⟨⟨r.len, g.sub, fun i d q => ?_, fun i xs q => ?_, r.vis, fun xs q => ?_, r.dis, r.dvi, g.tab, ⟨fun i n1 p1 q => ?_, r.ob.dis, r.ob.pin⟩⟩, t.same.trans g.same, fun b o h nt nb => ?_, t.via, fun b dx fs h z o => ?_⟩
  · obtain ⟨v, h1, h2⟩ := r.val i d q
    exact ⟨v, h1, Dv.mono g.same d v h2⟩
  · obtain ⟨c, vs, h1, h2, h3, hz, h4⟩ := r.own i xs q
    exact ⟨c, vs, h1, (g.keep c _ h3 nL).2 h2, (g.keep c _ h3 nL).1, hz, DvA.mono g.same xs vs h4⟩
  · obtain ⟨h1, vs, h2, hz, h3⟩ := r.vst xs q
    exact ⟨(g.keep va.a _ h2 nL).2 h1, vs, (g.keep va.a _ h2 nL).1, hz, DvA.mono g.same xs vs h3⟩
  · obtain ⟨c, h1, h2, dx, v1, v2, h3, d1, d2⟩ := r.ob.at_ i n1 p1 q
    have ne : c ≠ a := fun z => no ⟨i, n1, p1, q, by rw [← z]; exact h1⟩
    obtain ⟨k1, k2⟩ := g.kob c dx _ ne h3 h2
    exact ⟨c, h1, k2, dx, v1, v2, k1, Dv.mono g.same n1 v1 d1, Dv.mono g.same p1 v2 d2⟩
  · obtain ⟨k1, k2, k3⟩ := t.keep b o h nt nb
    obtain ⟨k4, k5⟩ := g.keep b o k1 nt
    exact ⟨k4, k2, fun z => k5 (k3 z)⟩
  · obtain ⟨k1, k2, k3⟩ := t.kob b dx fs h z o
    have ne : b ≠ a := fun y => by subst y; exact h0 dx fs h z o
    obtain ⟨k4, k5⟩ := g.kob b dx fs ne k1 k2
    exact ⟨k4, k5, k3⟩
/-- a comparison of the object of slot i with one of no slot -/
theorem Stp.cmpF (t : Stp K va s0 σ0 HP0 H0 s σ HP H) {i : Nat} (e : s.sl[i]? = some (some (.obj n p))) (ha : σ[i]? = some (some (.ref a))) (h0 : NewIn s0 σ0 HP0 H0 b) (no : ¬ OwnB s σ b) (g : FG2 K a b HP H HP' H' n1 p1 n2 p2) :
    Stp K va s0 σ0 HP0 H0 (s.put i (.obj n1 p1)) σ HP' H' := by
  have r := t.rel
  have ow : ∀ (j : Nat) m1 m2, (s.put i (.obj n1 p1)).sl[j]? = some (some (.obj m1 m2)) → (j = i ∧ m1 = n1 ∧ m2 = p1) ∨ (j ≠ i ∧ s.sl[j]? = some (some (.obj m1 m2))) := fun j m1 m2 q => by
    by_cases h : j = i
    · subst h
      have := sl_put_eq q
      injection this with e
      injection e with e1 e2
      exact .inl ⟨rfl, e1, e2⟩
    · rw [sl_put_ne h] at q; exact .inr ⟨h, q⟩
  have any : ∀ (j : Nat) m1 m2, (s.put i (.obj n1 p1)).sl[j]? = some (some (.obj m1 m2)) → ∃ m3 m4, s.sl[j]? = some (some (.obj m3 m4)) := fun j m1 m2 q => by
    rcases ow j m1 m2 q with ⟨rfl, _⟩ | ⟨_, q'⟩
    · exact ⟨n, p, e⟩
    · exact ⟨m1, m2, q'⟩
  have oth : ∀ (j : Nat) x, (s.put i (.obj n1 p1)).sl[j]? = some (some x) → (∀ n p, x ≠ .obj n p) → s.sl[j]? = some (some x) := fun j x q nx => by
    by_cases h : j = i
    · subst h
      have := sl_put_eq q
      exact absurd this.symm (by intro z; injection z with z; exact nx n1 p1 z.symm)
    · rw [sl_put_ne h] at q; exact q
  have owB : ∀ c, OwnB (s.put i (.obj n1 p1)) σ c → OwnB s σ c := fun c ⟨j, m1, m2, q1, q2⟩ => by
    obtain ⟨m3, m4, q1'⟩ := any j m1 m2 q1
    exact ⟨j, m3, m4, q1', q2⟩
  refine ⟨⟨by simpa [S.put] using r.len, g.sub, fun j d q => ?_, fun j ys q => ?_, fun j q => ?_, fun ws q => ?_, fun j k ys zs c ne q1 q2 => ?_, fun j ys q => ?_, g.tab, ⟨fun j m1 m2 q => ?_, fun j k m1 m2 m3 m4 c ne q1 q2 q3 => ?_, fun j m1 m2 c q z => (by obtain ⟨_, _, q'⟩ := any j m1 m2 q; exact r.ob.pin j _ _ c q' z)⟩⟩, t.same.trans g.same, fun c o hc nt nb => ?_, t.via, fun c dx fs hc nb o => ?_⟩
  · obtain ⟨v, h1, h2⟩ := r.val j d (oth j _ q (fun _ _ z => nomatch z))
    exact ⟨v, h1, Dv.mono g.same d v h2⟩
  · obtain ⟨c, vs, h1, h2, h3, hz, h4⟩ := r.own j ys (oth j _ q (fun _ _ z => nomatch z))
    exact ⟨c, vs, h1, (g.keep c _ h3 nL).2 h2, (g.keep c _ h3 nL).1, hz, DvA.mono g.same ys vs h4⟩
  · exact r.vis j (oth j _ q (fun _ _ z => nomatch z))
  · obtain ⟨h1, vs, h2, hz, h3⟩ := r.vst ws q
    exact ⟨(g.keep va.a _ h2 nL).2 h1, vs, (g.keep va.a _ h2 nL).1, hz, DvA.mono g.same ws vs h3⟩
  · exact r.dis j k ys zs c ne (oth j _ q1 (fun _ _ z => nomatch z)) (oth k _ q2 (fun _ _ z => nomatch z))
  · exact r.dvi j ys (oth j _ q (fun _ _ z => nomatch z))
  · rcases ow j m1 m2 q with ⟨rfl, rfl, rfl⟩ | ⟨nj, q'⟩
    · exact ⟨a, ha, g.ob1⟩
    · obtain ⟨c, h1, h2, dx, v1, v2, h3, d1, d2⟩ := r.ob.at_ j m1 m2 q'
      have ne : c ≠ a := fun z => by subst z; exact r.ob.dis j i m1 m2 n p c nj q' e h1 ha
      have neb : c ≠ b := fun z => no ⟨j, m1, m2, q', by rw [← z]; exact h1⟩
      obtain ⟨k1, k2⟩ := g.kob c dx _ ne neb h3 h2
      exact ⟨c, h1, k2, dx, v1, v2, k1, Dv.mono g.same m1 v1 d1, Dv.mono g.same m2 v2 d2⟩
  · obtain ⟨_, _, q1'⟩ := any j m1 m2 q1
    obtain ⟨_, _, q2'⟩ := any k m3 m4 q2
    exact r.ob.dis j k _ _ _ _ c ne q1' q2' q3
  · obtain ⟨k1, k2, k3⟩ := t.keep c o hc nt nb
    obtain ⟨k4, k5⟩ := g.keep c o k1 nt
    refine ⟨k4, fun z => k2 ?_, fun z => k5 (k3 z)⟩
    rcases z with ⟨j, ys, q1, q2⟩ | z
    · exact .inl ⟨j, ys, oth j _ q1 (fun _ _ z => nomatch z), q2⟩
    · exact .inr z
  · obtain ⟨k1, k2, k3⟩ := t.kob c dx fs hc nb o
    have ne : c ≠ a := fun z => k3 ⟨i, n, p, e, by rw [z]; exact ha⟩
    have neb : c ≠ b := fun y => by subst y; exact h0 dx fs hc nb o
    obtain ⟨k4, k5⟩ := g.kob c dx fs ne neb k1 k2
    exact ⟨k4, k5, fun z => k3 (owB c z)⟩
end
theorem fn_mk {P : Program} {w : World} {K : PySem.W.Frag} {mg : Str → Option Value} {base : Heap} {x qual : Str} {st : Stmt} {f : Addr} {fd : FuncData} {N ps : List Str} {k : Nat} {f1 : S → T} {f2 f3 : S → R D} {mI : FMi} (F : Fun K x qual st f fd) (Sc : FnScope N ps (defScope st))
    (body : ∀ (cdv : Value) (A : Around) (outer : List Env) (s : Shared) (H : Hp) (E : XK), Room k (A.deeper (envOfC qual (defScope st) s.heap.objs.size f cdv)) →
      PSs (cxOf (L2.CX P w) P w K mg base N qual (defScope st) f cdv A outer s H E) (defBody st) (tInit (cxOf (L2.CX P w) P w K mg base N qual (defScope st) f cdv A outer s H E) (fun cls d _ H => E cls d H) f1 f2 f3))
    (hm : ∀ (a : Addr) (ds : List D), mI ds ≠ .stuck → ∃ n p, mI ds = .ok n p ∧ f1 (stD N (.ref a :: ds) none) = .next (stD N (.ref a :: ds) none) ∧ f2 (stD N (.ref a :: ds) none) = .ok n (stD N (.ref a :: ds) none) ∧ f3 (stD N (.ref a :: ds) none) = .ok p (stD N (.ref a :: ds) none)) :
    FnOk P w K mg base (L2.CX P w) (k + 1) f fd ps (spI K ps.length mI) := by
  refine F.okX Sc (fun vs H Q E h => ?_) (fun cdv A outer s H vs Q E hr h => ?_)
  · obtain ⟨_, _, _, _, _, _, e, _⟩ := h; exact e
  · obtain ⟨a, HP, ds, vs', dx, rfl, e1, sm, dv, nP, hH, tb, po⟩ := h
    have hN : (V.ref a :: vs').length ≤ N.length := by
      have := congrArg List.length Sc.pre
      rw [List.length_take] at this
      omega
    have ne : mI ds ≠ .stuck := fun z => by rw [z] at po; exact po
    obtain ⟨n, p, em, g1, g2, g3⟩ := hm a ds ne
    rw [em] at po
    refine ⟨_, body cdv A outer s H E hr, ⟨0, none, none⟩, stD N (.ref a :: ds) none, HP, a, dx, rel_start (vs' := .ref a :: vs') (w := none) hN sm (.cons (.ref a) dv) rfl tb, rfl, hH, nP, fun b ⟨i, n, p, q, _⟩ => stD_obj q, ?_, n, p, g1, g2, g3, fun σ' H' HP' g => po H' HP' g⟩
    funext b
    refine propext ⟨fun z => ?_, fun z => z.elim⟩
    rcases z with ⟨i, xs, q, _⟩ | ⟨q, _⟩
    · exact stD_own q
    · exact q rfl
def HasMk (P : Program) (w : World) (K : PySem.W.Frag) (mg : Str → Option Value) (base : Heap) (k : Nat) (ps : List Str) (m : FMi) : Prop := ∃ f fd, FnOk P w K mg base (L2.CX P w) k f fd ps (spI K ps.length m) ∧ Mk K objC f ∧ Binds K fd ps []
def newO (m : FMi) (n : Nat) (ga : S → R (List D)) (s : S) : Option (D × D × S) := match ga s with
  | .ok ds s' => if ds.length + 1 = n then (match m ds with
    | .ok n p => some (n, p, s')
    | .stuck => none) else none
  | _ => none
def tNewO (X : Cx) (f : S → Option (D × D × S)) : TE := fun σ H Q => ∃ va s HP, Rel X.K va s σ HP H ∧ match f s with
  | some (n, p, s') => ∀ a H' HP', NewIn s σ HP H a → Stp X.K va s σ HP H s' σ HP' H' → ObAt X.K HP' H' a n p → ¬ OwnB s' σ a → Q (.ref a) H'
  | none => False
section
variable {X : Cx} {W : WX} {k : Nat} {ps : List Str} {m : FMi} {c y : Str} {p py pos : Pos} {e : Expr} {es : List Expr} {ga : S → R (List D)}
theorem Stp.ownF {K : PySem.W.Frag} {va : VA} {s s' : S} {σ : St} {HP H HP' H' : Hp} {a dx : Addr} {fs : List (Str × V)} (t : Stp K va s σ HP H s' σ HP' H') (h : H a = some (.ins objC dx fs)) (z : HP a = none) (o : ¬ OwnB s σ a) : ¬ OwnB s' σ a := (t.kob a dx fs h z o).2.2
theorem pe_newO (G : HasMk X.prog X.w X.K X.mg X.base k ps m) (hr : Room (k + 1) X.A) (hm : X.mg c = some (.ref objC)) (ha : DA X (fun _ _ _ _ => False) (e :: es) ga) (hg : Gl X c := by rfl) (hdb : (c == ("__debug__" : Str)) = false := by decide)
    (he : starEach (e :: es) X.env = (false, eval e X.env) :: starEach es X.env := by rfl) (hpl : (backTo pos (starEach es X.env)).any (·.1) = false := by rfl) :
    PE X (.Call (.Name c p) (e :: es) [] pos) (tNewO X (newO m ps.length ga)) := by
  obtain ⟨f, fd, F, M, hb⟩ := G
  refine pe_imp (pe_make (dvs := []) (ds := []) (E := fun _ _ _ => False) M F hr hg hm hb .nil (fun _ _ _ _ _ _ _ z => (cx_false z).elim) ha hdb he hpl) fun σ H Q h => ?_
  obtain ⟨va, s, HP, rl, h⟩ := h
  unfold newO at h
  cases eg : ga s with
  | stuck => rw [eg] at h; exact h.elim
  | exc n pl s' => rw [eg] at h; exact h.elim
  | ok ds s1 =>
    rw [eg] at h
    dsimp only at h
    refine ⟨va, s, HP, rl, ?_⟩
    rw [eg]
    intro vs H1 HP1 st1 dv x dx nx ndx ne
    rw [List.append_nil]
    have b1 := st1.rel.beside (o := .own x) ndx
    have nx' : upd H1 dx (.own x) x = none := by rw [upd_ne (Ne.symm ne)]; exact nx
    have b2 := b1.rel.beside (p := x) (o := .ins objC dx []) nx'
    have all := (st1.trans b1).trans b2
    have hx0 : ¬ OwnB s1 σ x := fun ⟨i, n1, p1, q1, q2⟩ => by
      obtain ⟨a', h1, h2, dy, v1, v2, h3, _⟩ := st1.rel.ob.at_ i n1 p1 q1
      rw [q2] at h1
      injection h1 with h1; injection h1 with h1; injection h1 with h1
      rw [← h1, nx] at h3; cases h3
    by_cases hl : ds.length + 1 = ps.length
    · rw [if_pos hl] at h
      cases em : m ds with
      | stuck => rw [em] at h; exact h.elim
      | ok n p =>
        rw [em] at h
        refine ⟨x, HP1, ds, vs, dx, rfl, by rw [List.length_cons, dv.length]; exact hl, b2.rel.sub, dv, st1.rel.sub.free nx, upd_same, b2.rel.tab, ?_⟩
        rw [em]
        intro H' HP' g
        have hx : NewIn s σ HP H x := fun dy fs q1 q2 q3 => by
          obtain ⟨k1, _, _⟩ := st1.kob x dy fs q1 q2 q3
          rw [nx] at k1; cases k1
        exact ⟨rfl, h x H' HP' hx (all.calledF hx hx0 g) g.ob hx0⟩
    · rw [if_neg hl] at h
      exact h.elim
/-- x, y = C(..), C(..) -/
theorem ds_new2 {f1 f2 : S → Option (D × D × S)} {e1 e2 : Expr} (i j : Nat) {x y : Str} {px py pt : Pos} {kt k2 pt2} (hc : X.calm = true) (hN : X.N.Nodup) (h1 : PE X e1 (tNewO X f1)) (h2 : PE X e2 (tNewO X f2)) (hi : X.N[i]? = some x := by rfl) (hj : X.N[j]? = some y := by rfl) (hij : i ≠ j := by decide) (hi2 : 2 ≤ i := by decide) (hj2 : 2 ≤ j := by decide)
    (hx : X.env.scope.names.lookup x = some .local := by rfl) (hy : X.env.scope.names.lookup y = some .local := by rfl)
    (hw : swappedStores [.Tuple [.Name x px, .Name y py] kt pt] (.Tuple [e1, e2] k2 pt2) X.env = pure (some [x, y]) := by rfl)
    (hs : swapsWithSole [.Tuple [.Name x px, .Name y py] kt pt] (.Tuple [e1, e2] k2 pt2) pos.line X.env = pure false := by rfl)
    (he1 : starEach [e1, e2] X.env = (false, eval e1 X.env) :: starEach [e2] X.env := by rfl) (he2 : starEach [e2] X.env = (false, eval e2 X.env) :: starEach [] X.env := by rfl) :
    DS X W (.Assign [.Tuple [.Name x px, .Name y py] kt pt] (.Tuple [e1, e2] k2 pt2) pos) (fun s => match f1 s with
      | some (n, p, s1) => (match f2 s1 with
        | some (n', p', s2) => .next ((s2.put i (.obj n p)).put j (.obj n' p'))
        | none => .stuck)
      | none => .stuck) := by
  refine ps_imp (ps_par hc hN hi hj hij hx hy (pa_cons h1 (pa_cons h2 pa_nil he2) he1) hw hs) fun D σ H h => ?_
  obtain ⟨va, s, HP, rl, h⟩ := h
  dsimp only at h
  refine ⟨va, s, HP, rl, ?_⟩
  cases q1 : f1 s with
  | none => rw [q1] at h; exact h.elim
  | some u1 =>
    obtain ⟨n, p, s1⟩ := u1
    rw [q1] at h
    dsimp only at h ⊢
    intro a H1 HP1 a0 t1 ob1 no1
    refine ⟨va, s1, HP1, t1.rel, ?_⟩
    cases q2 : f2 s1 with
    | none => rw [q2] at h; exact h.elim
    | some u2 =>
      obtain ⟨n', p', s2⟩ := u2
      rw [q2] at h
      dsimp only at h ⊢
      intro b H2 HP2 b0 t2 ob2 no2
      obtain ⟨o1, dx, v1, v2, o2, o3, o4⟩ := id ob1
      obtain ⟨k1, k2', k3⟩ := t2.kob a dx _ o2 o1 no1
      have ob1' : ObAt X.K HP2 H2 a n p := ⟨k2', dx, v1, v2, k1, Dv.mono t2.same n v1 o3, Dv.mono t2.same p v2 o4⟩
      have hab : b ≠ a := fun z => by subst z; exact b0 dx _ o2 o1 no1
      have t12 := t1.trans t2
      have t3 := t12.take i a0 ob1' k3 (va.pin_hi hi2)
      have b0' : NewIn s σ HP H b := fun dy fs q1 q2 q3 => by
        obtain ⟨m1, m2, m3⟩ := t1.kob b dy fs q1 q2 q3
        exact b0 dy fs m1 m2 m3
      have nob : ¬ OwnB (s2.put i (.obj n p)) (σ.set i (some (.ref a))) b := fun ⟨q, m1, m2, z1, z2⟩ => by
        by_cases e : q = i
        · subst e
          have hl : q < σ.length := by
            have : q < (s2.put q (.obj n p)).sl.length := by
              rcases Nat.lt_or_ge q (s2.put q (.obj n p)).sl.length with w | w
              · exact w
              · rw [List.getElem?_eq_none_iff.mpr w] at z1; cases z1
            simpa [S.put, t2.rel.len] using this
          rw [List.getElem?_set_self hl] at z2
          injection z2 with z2; injection z2 with z2; injection z2 with z2
          exact hab z2.symm
        · rw [sl_put_ne e] at z1
          rw [st_put_ne e] at z2
          exact no2 ⟨q, m1, m2, z1, z2⟩
      exact ⟨.ref a, .ref b, rfl, h _ _ _ (t3.take j b0' ob2 nob (va.pin_hi hj2))⟩
/-- o != C(..), o the object of slot i -/
theorem de_neNew {f1 : S → Option (D × D × S)} {e1 : Expr} {m2 : FM2} {ps2 : List Str} {k2 : Nat} (i : Nat) (G : Has2 X.prog X.w X.K X.mg X.base k2 ps2 m2) (hr : Room (k2 + 1) X.A) (h1 : PE X e1 (tNewO X f1)) (hN : X.N[i]? = some y := by rfl) (hv : Vis X.env.scope y := by first | exact Or.inl rfl | exact Or.inr (Or.inl rfl) | exact Or.inr (Or.inr rfl)) (hd : (y == ("__debug__" : Str)) = false := by decide) (hcd : (y == ("__classdict__" : Str)) = false := by decide) :
    DE X W (.Compare (.Name y py) [.NotEq] [e1] pos) (fun s => if (getO i s).isSome = true then (match f1 s with
      | some (n', p', s1) => (match getO i s1 with
        | some (n, p) => (match m2 n p n' p' with
          | .ok (.bl k) n1 p1 _ _ => .ok (.bl (!k)) (s1.put i (.obj n1 p1))
          | _ => .stuck)
        | none => .stuck)
      | none => .stuck) else .stuck) := by
  obtain ⟨f, fd, F, c, hb⟩ := G
  refine pe_imp (pe_cmpR (op_neO (fnR_of F hb) hr c) (pv i hN hv hd hcd) h1 (nomark _)) fun σ H Q h => ?_
  obtain ⟨va, s, HP, rl, h⟩ := h
  dsimp only at h
  by_cases ho : (getO i s).isSome = true
  rotate_left
  · rw [if_neg ho] at h; exact h.elim
  rw [if_pos ho] at h
  obtain ⟨⟨n0, p0⟩, q0⟩ := Option.isSome_iff_exists.mp ho
  obtain ⟨a, e1, _⟩ := rl.ob.at_ i n0 p0 (getO_some q0)
  cases q1 : f1 s with
  | none => rw [q1] at h; exact h.elim
  | some u1 =>
    obtain ⟨n', p', s1⟩ := u1
    rw [q1] at h
    dsimp only at h
    cases q2 : getO i s1 with
    | none => rw [q2] at h; exact h.elim
    | some u2 =>
      obtain ⟨n, p⟩ := u2
      rw [q2] at h
      dsimp only at h
      cases q3 : m2 n p n' p' with
      | stuck => rw [q3] at h; exact h.elim
      | ok d n1 p1 n2 p2 =>
        rw [q3] at h
        cases d with
        | bl kk =>
          dsimp only at h
          refine ⟨.ref a, e1, va, s, HP, rl, ?_⟩
          rw [q1]
          intro b H1 HP1 b0 t1 ob no
          have q2' := getO_some q2
          obtain ⟨a', e2, o1⟩ := t1.rel.ob.at_ i n p q2'
          rw [e1] at e2
          injection e2 with e2; injection e2 with e2; injection e2 with e2
          subst e2
          have hab : a ≠ b := fun z => by subst z; exact no ⟨i, n, p, q2', e1⟩
          obtain ⟨_, dx, v1, v2, h3, _⟩ := id o1
          obtain ⟨_, dy, w1, w2, h4, _⟩ := id ob
          refine ⟨a, b, dx, _, dy, _, rfl, rfl, h3, h4, a, b, HP1, n, p, n', p', rfl, hab, t1.rel.sub, o1, ob, t1.rel.tab, ?_⟩
          rw [q3]
          intro v H' HP' fg dv
          cases dv
          exact ⟨kk, rfl, h.fin_at (t1.cmpF q2' e1 b0 no fg) (.bl (!kk))⟩
        | _ => exact h.elim
end
end DL

namespace DL
open PySem PySem.Spec PyProof.Rows L2 LamX NdefX
/-! ## closures with one parameter, called with an object -/
/-- what the captured cells hold, in a base -/
structure CellsB (cl : List (Str × Addr)) (fr : List Str) (ws : List (Option V)) (b2 : Heap) : Prop where
  len : ws.length = fr.length
  all : ∀ y c, cl.lookup y = some c → ∃ v, b2.IsCell c v
  inj : ∀ x y c, cl.lookup x = some c → cl.lookup y = some c → x = y
  has : ∀ (i : Nat) (y : Str), fr[i]? = some y → ∃ c, cl.lookup y = some c ∧ ∀ v, ws[i]? = some (some v) → ∃ u, L2.RelV v u ∧ b2.IsCell c (some u)
theorem CellsB.at_ {P : Program} {w : World} {K : PySem.W.Frag} {mg : Str → Option Value} {b2 : Heap} {A : Around} {outer : List Env} {s : Shared} {H : Hp} {cl : List (Str × Addr)} {fr : List Str} {ws : List (Option V)} (C : CellsB cl fr ws b2) (e0 : Env0 P w K mg b2 A outer s H) :
    CellsAt cl fr ws s.heap H := by
  have up : ∀ {c : Addr} {v : Option Value}, b2.IsCell c v → s.heap.IsCell c v ∧ H c = none := fun {c v} ⟨o, e1, e2⟩ => ⟨⟨o, (e0.bs c o e1).1, e2⟩, (e0.bs c o e1).2⟩
  refine ⟨C.len, fun y c e => ?_, C.inj, fun i y e => ?_⟩
  · obtain ⟨v, hv⟩ := C.all y c e
    exact ⟨(up hv).2, v, (up hv).1⟩
  · obtain ⟨c, h1, h2⟩ := C.has i y e
    refine ⟨c, h1, fun v hv => ?_⟩
    obtain ⟨u, r, q⟩ := h2 v hv
    exact ⟨u, r, (up q).1⟩
theorem cellsB_of {X : Cx} {σ : L2.St} {b2 : Heap} {cl : List (Str × Addr)} {fr : List Str} {js : List Nat} (R : Rdy X σ b2) (c : Caps X cl fr js) : CellsB cl fr (js.map (slotAt σ)) b2 := by
  refine ⟨?_, fun y a e => R.cell y a (c.sub y a e), fun x y a e1 e2 => R.ok.inj x y a (c.sub x a e1) (c.sub y a e2), fun i y e => ?_⟩
  · have q := congrArg List.length c.at_
    rw [List.length_map, List.length_map] at q
    rw [List.length_map]
    exact q
  · have e2 : (js.map fun j => X.N[j]?)[i]? = some (some y) := by
      rw [c.at_, List.getElem?_map, e]; rfl
    rw [List.getElem?_map] at e2
    cases ej : js[i]? with
    | none => rw [ej] at e2; cases e2
    | some j =>
      rw [ej] at e2
      have e3 : X.N[j]? = some y := Option.some.inj e2
      obtain ⟨a, ha⟩ := R.ok.has y (c.kin y (List.mem_of_getElem? e))
      refine ⟨a, c.sup y (List.mem_of_getElem? e) a ha, fun v hv => ?_⟩
      rw [List.getElem?_map, ej] at hv
      have hv2 : slotAt σ j = some v := Option.some.inj hv
      obtain ⟨u, r, a2, h2, q⟩ := R.loc j y v e3 (slotAt_some hv2) (c.kin y (List.mem_of_getElem? e))
      rw [ha] at h2
      cases h2
      exact ⟨u, r, q⟩
/-- data that need no heap -/
inductive Sca : V → D → Prop
  | non : Sca .non .non
  | bl (b : Bool) : Sca (.bl b) (.bl b)
  | int (i : Int) : Sca (.int i) (.int i)
  | str (x : Str) : Sca (.str x) (.str x)
theorem Sca.dv {K : PySem.W.Frag} {HP : Hp} {v : V} {d : D} (h : Sca v d) : Dv K HP v d := by
  cases h with
  | non => exact .non
  | bl b => exact .bl b
  | int i => exact .int i
  | str x => exact .str x
def scaD : D → Bool
  | .non => true
  | .bl _ => true
  | .int _ => true
  | .str _ => true
  | _ => false
theorem Dv.sca {K : PySem.W.Frag} {HP : Hp} {v : V} {d : D} (h : Dv K HP v d) (q : scaD d = true) : Sca v d := by
  cases h with
  | non => exact .non
  | bl b => exact .bl b
  | int i => exact .int i
  | str x => exact .str x
  | _ => cases q
inductive ScaA : List V → List D → Prop
  | nil : ScaA [] []
  | cons {v : V} {d : D} {vs : List V} {ds : List D} : Sca v d → ScaA vs ds → ScaA (v :: vs) (d :: ds)
theorem ScaA.dv {K : PySem.W.Frag} {HP : Hp} : ∀ {vs : List V} {ds : List D}, ScaA vs ds → DvA K HP vs ds
  | _, _, .nil => .nil
  | _, _, .cons h r => .cons h.dv r.dv
theorem ScaA.length : ∀ {vs : List V} {ds : List D}, ScaA vs ds → vs.length = ds.length
  | _, _, .nil => rfl
  | _, _, .cons _ r => by simp [r.length]
def R.finO : R D → FRo
  | .ok d s => match getO 0 s with
    | some (n, p) => .ok d n p
    | none => .stuck
  | .exc x pl s => match getO 0 s with
    | some (n, p) => .exc x pl n p
    | none => .stuck
  | .stuck => .stuck
/-- the closure (q, L, cells) is worth m over the base b2 -/
def ClW (P : Program) (w : World) (K : PySem.W.Frag) (mg : Str → Option Value) (b2 : Heap) (k : Nat) (q : Str) (L : LamC) (cells : List (Str × Addr)) (m : D → D → FRo) : Prop :=
  ∀ (f cc : Addr) (A : Around) (outer : List Env) (s : Shared) (H HP : Hp) (a : Addr) (n p : D) (Q : VK) (E : XK), Room k A → Env0 P w K mg b2 A outer s H → Same HP H → HP f = some (LamO f cc q L cells) → HP cc = some (CodeO cc q) → ObAt K HP H a n p → TB lamT HP H →
    PoFo K mg a HP H (m n p) Q E → codeAny (model P w) A (.call (.ref f) ⟨[.ref a], []⟩) (CR (L2.CX P w) outer P w H s Q E) s
/-- the words of a lambda as those of a function -/
abbrev lamNF (q : Str) (L : LamC) (cells : List (Str × Addr)) (cc : Addr) : NF := ⟨"<lambda>", q, L.params, [], L.scope, cloFrom cells L.scope.names [], cc⟩
theorem clW_of {P : Program} {w : World} {K : PySem.W.Frag} {mg : Str → Option Value} {b2 : Heap} {k : Nat} {q pn : Str} {L : LamC} {cells : List (Str × Addr)} {N fr : List Str} {vs : List V} {ds : List D} {fb : S → R D} (Sc : NScope N [pn] fr L.scope)
    (bnd : ∀ (cl : List (Str × Addr)) (pm cv ctv u : Value), bindArgs (PySem.W.kla_fn "<lambda>" q L.params L.body L.scope cl pm cv ctv) ⟨[u], []⟩ = pure ([pn].zip [u])) (C : CellsB (cloFrom cells L.scope.names []) fr (vs.map some) b2) (sc : ScaA vs ds)
    (hb : ∀ (A : Around) (outer : List Env) (s : Shared) (H : Hp) (E : XK) (f cc : Addr), Room k (A.deeper (envF (lamNF q L cells cc) f s.heap.objs.size)) → DE (ncx (L2.CX P w) P w K mg b2 N (lamNF q L cells cc) f A outer s H E) (fun cls d _ H => E cls d H) L.body fb) :
    ClW P w K mg b2 (k + 1) q L cells (fun n p => (fb (stO N n p ds)).finO) := by
  intro f cc A outer s H HP a n p Q E hr e0 sub hf hcc ob tb po
  dsimp only at po
  obtain ⟨⟨pm, ctv, ff⟩, _, _⟩ := e0.hok f _ (sub _ _ hf)
  obtain ⟨⟨oc, vs2, tt, e1, e2, e3⟩, _, _⟩ := e0.hok cc _ (sub _ _ hcc)
  have lim : s.heap.NoLimit := e0.mod.nolimit.keeps fun b o e => (e0.bs b o e).1
  refine PySem.W.kla_callFunE hr.depth ff rfl Sc.co Sc.gen rfl ⟨cc, oc, vs2, tt, rfl, e1, e2, e3⟩ ?_
  rw [bnd]
  refine wpAny_pure (wpAny_newFunctionEnv Sc.nocell (fun ⟨n, _⟩ hy => Sc.par n (List.of_mem_zip hy).1) (fun h1 ns sb => ⟨lim.fresh _ sb, ?_⟩) Sc.kind)
  have kp : ∀ b o, s.heap.get? b = some o → h1.get? b = some o := fun b o e => sb.extBut b o (Nat.ne_of_lt (Heap.lt_size e)) (Heap.get?_push_of_some _ e)
  have hl : vs.length = fr.length := by have := C.len; rwa [List.length_map] at this
  have hN : 1 + fr.length ≤ N.length := by
    have := congrArg List.length Sc.pre
    rw [List.length_take, List.length_append] at this
    simp at this
    omega
  have st : startF N [V.ref a] (vs.map some) = start N (.ref a :: vs) := by
    unfold startF L2.start
    simp only [List.map_cons, List.map_nil, List.length_map, List.length_cons, List.length_nil, List.cons_append, List.nil_append]
    rw [show N.length - (0 + 1) - vs.length = N.length - (vs.length + 1) from by omega]
  have I : Inv (ncx (L2.CX P w) P w K mg b2 N (lamNF q L cells cc) f A outer s H E) [] (startF N [V.ref a] (vs.map some)) H { s with heap := h1, toks := s.toks + ([pn].zip [Value.ref a]).length } :=
    inv_startN Sc hr.hd e0 rfl (.cons rfl .nil) (C.at_ e0) ns kp
  rw [st] at I
  have rs : Rel K (va0 a) (stO N n p ds) (start N (.ref a :: vs)) HP H := rel_startO (by rw [hl]; omega) sub sc.dv ob tb
  have h0 : (start N (.ref a :: vs))[0]? = some (some (.ref a)) := rfl
  refine PySem.W.kla_codeExpr (wpAny_mono ((hb A outer s H E f cc (hr.deeper _)).run [] _ _ H Q I ⟨va0 a, stO N n p ds, HP, rs, ?_⟩) (fun v s2 w => ?_) fun _ _ w => w)
  · cases e : fb (stO N n p ds) with
    | stuck => rw [e] at po; exact po.elim
    | ok d s' =>
      rw [e] at po
      unfold R.finO at po
      dsimp only at po
      split at po
      · rename_i n' p' z; exact fun v H' HP' stp dv => po v H' HP' (stp.fgo h0 z) dv
      · exact po.elim
    | exc x pl s' =>
      rw [e] at po
      unfold R.finO at po
      dsimp only at po
      split at po
      · rename_i n' p' z; exact fun dd H' HP' C stp y1 y2 => po dd H' HP' C (stp.fgo h0 z) y1 y2
      · exact po.elim
  · exact w.elim fun y w => w.elim fun G2 w => ⟨y, G2, w.1.os, w.1.bare, w.1.base, w.1.hok, w.2.1, w.2.2⟩
end DL

namespace DL
open PySem PySem.Spec PyProof.Rows L2
/-! ## try .. finally -/
abbrev W0 : WX := fun _ _ _ _ => False
def finT (r : T) (fF : S → T) : T := match r with
  | .next s1 => (match fF s1 with
    | .exc _ _ _ => .stuck
    | t => t)
  | .exc x none s1 => match fF s1 with
    | .next s2 => .exc x none s2
    | _ => .stuck
  | _ => .stuck
theorem ds_tryFin {X : Cx} {W : WX} {body : List Stmt} {f₀ : Stmt} {fs : List Stmt} {pos : Pos} {fB fF : S → T} (hs : X.stack = X.env :: X.outer) (hf : X.env.frame = some X.env.locals) (hex : X.ex = []) (tk : Takes X W)
    (hb : ∀ (W' : WX) (pn : List (Addr × Obj)) (xe : Value → Shared → Prop), Takes (X.tr pn xe) W' → PassesOwn (model X.prog X.w) X.A X.env xe → DSs (X.tr pn xe) W' body fB)
    (hfin : DSs X.nox W0 (f₀ :: fs) fF) (hsu : ∀ (a : Addr) (pn : List (Addr × Obj)), DSs (X.suite a pn) W0 (f₀ :: fs) fF) : DS X W (.Try body [] [] (f₀ :: fs) pos) (fun s => finT (fB s) fF) := by
  refine ⟨fun pins s σ H D I h => ?_⟩
  obtain ⟨va, st, HP, rl, h⟩ := h
  dsimp only at h
  have ok := I.ok
  refine wpAny_Try_finally ?_
  let tfs : TS := tDS X W0 fF
  have hsu' : ∀ (a : Addr) (pn : List (Addr × Obj)), PSs (X.suite a pn) (f₀ :: fs) tfs := hsu
  have hfin' : PSs X.nox (f₀ :: fs) tfs := hfin
  refine wpAny_mono ((hb (wFin tfs W) (X.pn ++ pins) (fun x s₁ => wpAny (model X.prog X.w) X.A (noteFrame x X.env) (fun _ s₂ => FinallyRaised X.prog X.w X.A X.xe X.env (f₀ :: fs) (SP X pins D) x s₂) (FinallyRaised X.prog X.w X.A X.xe X.env (f₀ :: fs) (SP X pins D)) s₁)
    (fun u s' xx => ?_) PassesOwn.looking).run [] s σ H { nx := fun σ' H' => tfs D σ' H', rt := fun _ _ => False } (I.toTry _) ⟨va, st, HP, rl, ?_⟩) (fun g s1 z => ?_) (fun x s1 hx => hx)
  · exact fin_exc hs hf hex ok tk hsu' xx
  · unfold finT at h
    cases e : fB st with
    | next s1 =>
      rw [e] at h
      dsimp only at h
      intro σ' H' HP' stp
      refine ⟨va, s1, HP', stp.rel, ?_⟩
      have stp' : Stp X.K va st σ HP H s1 σ' HP' H' := stp
      show PoS X W0 va s1 σ' HP' H' (fF s1) D
      cases e2 : fF s1 with
      | next s2 => rw [e2] at h; exact PoS.from (X := X) (W := W0) stp' (show PoS X W0 va st σ HP H (T.next s2) D from h)
      | ret d s2 => rw [e2] at h; exact PoS.from (X := X) (W := W0) stp' (show PoS X W0 va st σ HP H (T.ret d s2) D from h)
      | retO d s2 => rw [e2] at h; exact PoS.from (X := X) (W := W0) stp' (show PoS X W0 va st σ HP H (T.retO d s2) D from h)
      | brk s2 => rw [e2] at h; exact PoS.from (X := X) (W := W0) stp' (show PoS X W0 va st σ HP H (T.brk s2) D from h)
      | cnt s2 => rw [e2] at h; exact PoS.from (X := X) (W := W0) stp' (show PoS X W0 va st σ HP H (T.cnt s2) D from h)
      | exc x pl s2 => rw [e2] at h; exact h.elim
      | stuck => rw [e2] at h; exact h.elim
    | exc x pl s1 =>
      rw [e] at h
      cases pl with
      | some i => exact h.elim
      | none =>
        dsimp only at h
        cases e2 : fF s1 with
        | next s2 =>
          rw [e2] at h
          intro dd σ' H' HP' C stp hx hC
          refine ⟨va, s1, HP', stp.rel, ?_⟩
          rw [e2]
          exact fun σ2 H2 HP2 stp2 => h dd σ2 H2 HP2 C (stp.trans stp2) rfl hC
        | ret d s2 => rw [e2] at h; exact h.elim
        | retO d s2 => rw [e2] at h; exact h.elim
        | brk s2 => rw [e2] at h; exact h.elim
        | cnt s2 => rw [e2] at h; exact h.elim
        | exc x pl s2 => rw [e2] at h; exact h.elim
        | stuck => rw [e2] at h; exact h.elim
    | ret d s1 => rw [e] at h; exact h.elim
    | retO d s1 => rw [e] at h; exact h.elim
    | brk s1 => rw [e] at h; exact h.elim
    | cnt s1 => rw [e] at h; exact h.elim
    | stuck => rw [e] at h; exact h.elim
  · cases g with
    | next =>
      obtain ⟨σ', H', J, q⟩ := z
      refine wpAny_execs_nil (wpAny_mono (hfin'.run pins s1 σ' H' D ((J.ofTry ok).wish _) q) (fun g s1 q => ?_) fun _ _ z => False.elim z)
      have q' : SP X pins D g s1 := q.unwish
      cases g with
      | next => exact q'
      | ret w2 => exact q'
      | brk => exact q'
      | cont => exact q'
    | brk => obtain ⟨_, _, _, q⟩ := z; exact q.elim
    | cont => obtain ⟨_, _, _, q⟩ := z; exact q.elim
    | ret u => obtain ⟨_, _, _, _, _, q⟩ := z; exact q.elim
end DL

namespace DL
open PySem PySem.Spec PyProof.Rows L2 LamX NdefX
/-! ## a closure that stands in a slot, called with the object of a slot -/
def resO (i : Nat) (r : FRo) (s : S) : R D := match r with
  | .ok d n' p' => .ok d (s.put i (.obj n' p'))
  | .exc x pl n' p' => .exc x pl (s.put i (.obj n' p'))
  | _ => .stuck
open Classical in
noncomputable def actO (i j : Nat) (q : Str) (L : LamC) (cells : List (Str × Addr)) (m : D → D → FRo) (s : S) : R D := match s.sl[j]? with
  | some (some (.val (.lam q' L' c'))) => if q' = q ∧ L' = L ∧ c' = cells then (match getO i s with
    | some (n, p) => resO i (m n p) s
    | none => .stuck) else .stuck
  | _ => .stuck
theorem actO_ok {i j : Nat} {q : Str} {L : LamC} {cells : List (Str × Addr)} {m : D → D → FRo} {s : S} {n p : D} (h1 : s.sl[j]? = some (some (.val (.lam q L cells)))) (h2 : getO i s = some (n, p)) : actO i j q L cells m s = resO i (m n p) s := by
  unfold actO
  rw [h1]
  dsimp only
  rw [if_pos ⟨rfl, rfl, rfl⟩, h2]
section
variable {Y : Cx} {W : WX} {k : Nat} {q : Str} {L : LamC} {cells : List (Str × Addr)} {m : D → D → FRo} {x y : Str} {p py pos : Pos}
theorem resO_po {K : PySem.W.Frag} {va : VA} {st : S} {σ : L2.St} {HP H : Hp} {i : Nat} {n p : D} {a : Addr} {r : FRo} {Q : VK} (rl : Rel Y.K va st σ HP H) (e : getO i st = some (n, p)) (ha : σ[i]? = some (some (.ref a))) (h : PoE Y W va st σ HP H (resO i r st) Q) : PoFo Y.K Y.mg a HP H r Q (WE W σ) := by
  unfold resO at h
  split at h
  · exact fun v H' HP' g dv => h v H' HP' (rl.calledO (getO_some e) ha g) dv
  · exact fun dd H' HP' C g y1 y2 => h dd H' HP' C (rl.calledO (getO_some e) ha g) y1 y2
  · exact h.elim
theorem de_actV (i j : Nat) (CW : ClW Y.prog Y.w Y.K Y.mg Y.base k q L cells m) (hr : Room k Y.A) (tk : Takes Y W) (hN : Y.N[i]? = some y := by rfl) (hv : Vis Y.env.scope y := by first | exact Or.inl rfl | exact Or.inr (Or.inl rfl) | exact Or.inr (Or.inr rfl))
    (hd : (y == ("__debug__" : Str)) = false := by decide) (hcd : (y == ("__classdict__" : Str)) = false := by decide) (hN2 : Y.N[j]? = some x := by rfl) (hv2 : Vis Y.env.scope x := by first | exact Or.inl rfl | exact Or.inr (Or.inl rfl) | exact Or.inr (Or.inr rfl))
    (hd2 : (x == ("__debug__" : Str)) = false := by decide) (hcd2 : (x == ("__classdict__" : Str)) = false := by decide) (he : starEach [.Name y py] Y.env = (false, eval (.Name y py) Y.env) :: starEach [] Y.env := by rfl) (hpl : (backTo pos (starEach [] Y.env)).any (·.1) = false := by rfl) :
    DE Y W (.Call (.Name x p) [.Name y py] [] pos) (actO i j q L cells m) := by
  constructor
  rintro pins s σ H Q I ⟨va, st, HP, rl, h⟩
  unfold actO at h
  split at h
  · rename_i q' L' c' e
    split at h
    · rename_i hq
      obtain ⟨rfl, rfl, rfl⟩ := hq
      cases e2 : getO i st with
      | none => rw [e2] at h; exact h.elim
      | some np =>
        obtain ⟨n, p'⟩ := np
        rw [e2] at h
        dsimp only at h
        obtain ⟨v, hσ, dv⟩ := rl.val j _ e
        obtain ⟨a, ha, ob⟩ := rl.ob.at_ i n p' (getO_some e2)
        cases dv with
        | @lam f cc _ _ _ hf hcc =>
          refine wpAny_Call_Name_kw (thn ((pe_var (pos := p) (i := j) hN2 hv2 hd2 hcd2).run pins s σ H (fun v G => v = .ref f ∧ G = H) I ⟨.ref f, hσ, rfl, rfl⟩) fun u s1 w => ?_)
          obtain ⟨v, G', J1, rv, rfl, rfl⟩ := w
          obtain rfl : u = Value.ref f := rv
          obtain ⟨⟨pm, ctv, ff⟩, _, _⟩ := J1.hok f _ (rl.sub _ _ hf)
          refine PySem.W.callWith_F (first := []) ⟨_, _, _, _, ff⟩ (thn ((pa_cons (pv i hN hv hd hcd) pa_nil he).run pos pins s1 σ G' (fun vs G => vs = [.ref a] ∧ G = G') J1 ⟨.ref a, ha, rfl, rfl⟩) fun us s2 w => ?_) he hpl
          obtain ⟨vs, G2, J2, rv2, rfl, rfl⟩ := w
          obtain ⟨u2, rfl, ru2⟩ := vals1 rv2
          obtain rfl : u2 = Value.ref a := ru2
          obtain ⟨⟨pm2, ctv2, ff2⟩, _, _⟩ := J2.hok f _ (rl.sub _ _ hf)
          refine ⟨⟨_, _, _, _, ff2⟩, ?_⟩
          show wpAny _ _ (call (.ref f) [.ref a]) _ _ _
          refine wpAny_call (codeAny_mono (CW f cc Y.A Y.stack s2 G2 HP a n p' Q (WE W σ) hr J2.env0 rl.sub hf hcc ob rl.tab (resO_po (K := Y.K) rl e2 ha h)) fun r s3 hq => ?_)
          cases r with
          | error e => exact passAt tk σ pins G2 s2 e s3 J2 hq
          | ok fl =>
            cases fl with
            | ret u => exact J2.after hq
            | next => exact False.elim hq
            | brk => exact False.elim hq
            | cont => exact False.elim hq
    · exact h.elim
  · exact h.elim
end
/-! ## evaluation -/
def objL (o : Option (Option Sl)) : Option (D × D) := match o with
  | some (some (.obj n p)) => some (n, p)
  | _ => none
@[simp] theorem getO_mk (i : Nat) (l : List (Option Sl)) (w : Option (List D)) : getO i ⟨l, w⟩ = objL l[i]? := rfl
@[simp] theorem objL_obj (n p : D) : objL (some (some (.obj n p))) = some (n, p) := rfl
@[simp] theorem objL_val (d : D) : objL (some (some (.val d))) = none := rfl
@[simp] theorem objL_none : objL none = none := rfl
@[simp] theorem objL_no : objL (some none) = none := rfl
theorem fldO_mk (i : Nat) (b : Bool) (l : List (Option Sl)) (w : Option (List D)) (n p : D) (h : objL l[i]? = some (n, p)) : fldO i b ⟨l, w⟩ = .ok (if b = true then p else n) ⟨l, w⟩ := by
  unfold fldO; rw [getO_mk, h]
theorem setO_mk (i : Nat) (b : Bool) (d : D) (l : List (Option Sl)) (w : Option (List D)) (n p : D) (h : objL l[i]? = some (n, p)) : setO i b d ⟨l, w⟩ = .next ⟨l.set i (some (if b = true then .obj n d else .obj d p)), w⟩ := by
  unfold setO; rw [getO_mk, h]; rfl
theorem conO_mk (i : Nat) (d : D) (l : List (Option Sl)) (w : Option (List D)) (n p : D) (h : objL l[i]? = some (n, p)) : conO i d ⟨l, w⟩ = .ok d ⟨l, w⟩ := by
  unfold conO; rw [getO_mk, h]
theorem callO_mk (i : Nat) (m : FMo) (k : Nat) (ds : List D) (l : List (Option Sl)) (w : Option (List D)) (n p : D) (h : objL l[i]? = some (n, p)) (hk : ds.length + 1 = k) : callO i m k ds ⟨l, w⟩ = resO i (m n p ds) ⟨l, w⟩ := by
  unfold callO resO; rw [getO_mk, h]; dsimp only; rw [if_pos hk] <;> (try (cases m n p ds <;> rfl))
@[simp] theorem resO_ok (i : Nat) (d n p : D) (l : List (Option Sl)) (w : Option (List D)) : resO i (.ok d n p) ⟨l, w⟩ = .ok d ⟨l.set i (some (.obj n p)), w⟩ := rfl
@[simp] theorem resO_exc (i : Nat) (x : Str) (pl : Option Int) (n p : D) (l : List (Option Sl)) (w : Option (List D)) : resO i (.exc x pl n p) ⟨l, w⟩ = .exc x pl ⟨l.set i (some (.obj n p)), w⟩ := rfl
end DL

namespace DL
open PySem PySem.Spec PyProof.Rows L2 LamX
/-! ## the lambda's frame over the greater base -/
def lamCx2 (X : Cx) (b2 : Heap) (A : Around) (outer : List Env) (s : Shared) (H : Hp) (E : XK) (scope : Scope) (f cc : Addr) : Cx := { lamCx X A outer s H E scope f cc with base := b2 }
section
variable {X : Cx} {σ : L2.St} {HZ : Hp} {b2 : Heap} {s1 : Shared}
theorem lam_start4 {A : Around} {outer : List Env} {E : XK} {scope : Scope} {f cc : Addr} {h1 : Heap} {tk : Nat} (R : Rdy X σ b2) (L : LamS X.env.scope scope) (e0 : Env0 X.prog X.w X.K X.mg b2 A outer s1 HZ) (hd : A.handled = none)
    (ns : h1.Ns s1.heap.objs.size fun y => ([] : List (Str × Value)).reverse.lookup y) (kp : ∀ b o, s1.heap.get? b = some o → h1.get? b = some o) :
    Inv (lamCx2 X b2 A outer s1 HZ E scope f cc) [] σ HZ { s1 with heap := h1, toks := tk } := by
  have hfree := L.has R.ok
  have from_ : ∀ {y c}, (cloFrom X.env.cells scope.names []).lookup y = some c → X.env.cells.lookup y = some c := fun {y c} e => by
    rcases cloFrom_mem (PySem.mem_of_lookup e) with z | ⟨z1, z2⟩
    · cases z
    · obtain ⟨d, hd⟩ := hfree _ z1 rfl
      have hd : X.env.cells.lookup y = some d := hd
      rw [hd] at z2
      have z2 : c = d := z2
      rw [z2]; exact hd
  have into : ∀ {y}, scope.names.lookup y = some .free → ∃ c, (cloFrom X.env.cells scope.names []).lookup y = some c := fun {y} hl => mem_lookup (cloFrom_has (cells := X.env.cells) (acc := []) (show (y, NameKind.free) ∈ scope.names from PySem.mem_of_lookup hl))
  have up : ∀ {c : Addr} {v : Option Value}, b2.IsCell c v → h1.IsCell c v ∧ HZ c = none := fun {c v} ⟨o, g1, g2⟩ => ⟨⟨o, kp _ _ (e0.bs c o g1).1, g2⟩, (e0.bs c o g1).2⟩
  have noA : ∀ b : Addr, b ∉ (lamCx2 X b2 A outer s1 HZ E scope f cc).ex := fun b z => nomatch (show b ∈ ([] : List Addr) from z)
  refine ⟨⟨e0.mod, L.kind, rfl, rfl, Nat.le_refl _, fun y z c a b => R.ok.inj y z c (from_ a) (from_ b), fun y hy => ?_, (fun y c z _ => nomatch (show false = true from z)), fun _ => hd, Around.frames_deeper e0.frames, .inr ⟨rfl, rfl⟩, fun b z => absurd z (noA b), e0.bs, e0.bsz, fun b _ _ => noA b,
      fun b z => absurd z (noA b), e0.funs, e0.frf⟩,
    rfl, e0.bare, Un.kept kp, ⟨_, ns, fun i y v a b k => ?_⟩, fun y c e => ?_, e0.hok.fresh (Nat.le_refl _), fun y c e => ?_, (fun q hq => nomatch (show q ∈ ([] : List (Addr × Obj)) ++ [] from hq)), e0.hok.kept kp, R.len⟩
  · have hy : scope.names.lookup y = some .cell ∨ scope.names.lookup y = some .free := hy
    rcases hy with hy | hy
    · exact absurd rfl (L.own _ (PySem.mem_of_lookup hy)).2
    · exact into hy
  · have k : Vis scope y := k
    rcases k with k | k | k
    · exact absurd rfl (L.own _ (PySem.mem_of_lookup k)).1
    · exact absurd rfl (L.own _ (PySem.mem_of_lookup k)).2
    · obtain ⟨u, r, c, hc, hv⟩ := R.loc i y v a b (L.free _ (PySem.mem_of_lookup k) rfl)
      obtain ⟨d, hd2⟩ := into k
      have q := from_ hd2
      rw [hc] at q
      cases q
      exact ⟨u, r, .inr ⟨.inr k, c, hd2, (up hv).1⟩⟩
  · obtain ⟨v, hv⟩ := R.cell y c (from_ e)
    exact ⟨v, (up hv).1⟩
  · obtain ⟨v, hv⟩ := R.cell y c (from_ e)
    exact (up hv).2
/-- a(), a being a lambda that is known -/
theorem pe_actB2 {A : Around} {stk : List Env} {Ng : List Str} {qg : Str} {sg : Scope} {g : Addr} {cdg : Value} {L : LamC} {s : Shared} {H : Hp} {k i : Nat} {a : Str} {pn : List (Addr × Obj)} {xe : Value → Shared → Prop} {W : WX} {t : XK → TE} {p1 p2 : Pos} {f cc : Addr}
    (R : Rdy X σ b2) (LS : LamS X.env.scope L.scope)
    (bnd : ∀ (cl : List (Str × Addr)) (pm cv ctv : Value), bindArgs (PySem.W.kla_fn "<lambda>" (X.env.qual ++ "<lambda>") L.params L.body L.scope cl pm cv ctv) ⟨[], []⟩ = pure [])
    (tk : Takes ((cxB X b2 A stk Ng qg sg g cdg s H).tr pn xe) W) (hr : Room (k + 1) (A.deeper (envOfC qg sg s.heap.objs.size g cdg)))
    (hb : ∀ (A : Around) (outer : List Env) (s : Shared) (H : Hp) (E : XK) (f cc : Addr), Room k (A.deeper (lamEnv X L.scope s.heap.objs.size f cc)) → PE (lamCx2 X b2 A outer s H E L.scope f cc) L.body (t E))
    (hN : Ng[i]? = some a) (hv : Vis sg a) (hd : (a == ("__debug__" : Str)) = false := by decide) (hcd : (a == ("__classdict__" : Str)) = false := by decide) :
    PE ((cxB X b2 A stk Ng qg sg g cdg s H).tr pn xe) (.Call (.Name a p1) [] [] p2)
      (fun τ G Q => τ[i]? = some (some (.ref f)) ∧ G cc = some (CodeO cc (X.env.qual ++ "<lambda>")) ∧ G f = some (LamO f cc (X.env.qual ++ "<lambda>") L X.env.cells) ∧ t (WE W τ) σ G Q) := by
  constructor
  intro pz sz τ G Q J hh
  refine wpAny_Call_Name_kw (thn ((pe_var (pos := p1) (i := i) hN hv hd hcd).run pz sz τ G (fun v G' => v = .ref f ∧ G' = G) J ⟨.ref f, hh.1, rfl, rfl⟩) fun u s1 w => ?_)
  obtain ⟨v, G', J1, rv, rfl, rfl⟩ := w
  obtain rfl : u = Value.ref f := rv
  obtain ⟨⟨pm, ctv, ff⟩, _, _⟩ := J1.hok f _ hh.2.2.1
  refine PySem.W.callWith_F0 ⟨_, _, _, _, ff⟩ ?_
  obtain ⟨⟨oc, vs, tt, e1, e2, e3⟩, _, _⟩ := J1.hok cc _ hh.2.1
  have told : codeAny (model X.prog X.w) (A.deeper (envOfC qg sg s.heap.objs.size g cdg)) (.call (.ref f) ⟨[], []⟩) (CR (L2.CX X.prog X.w) (envOfC qg sg s.heap.objs.size g cdg :: stk) X.prog X.w G' s1 Q (WE W τ)) s1 := by
    refine PySem.W.kla_callFunE hr.depth ff rfl LS.co LS.gen rfl ⟨cc, oc, vs, tt, rfl, e1, e2, e3⟩ ?_
    rw [bnd]
    refine wpAny_pure (wpAny_newFunctionEnv (fun y hy => (LS.own y hy).2) (fun y hy => absurd hy (by simp)) (fun h1 ns sb => ⟨J1.nolimit.fresh _ sb, ?_⟩) LS.kind)
    have kp : ∀ b o, s1.heap.get? b = some o → h1.get? b = some o := fun b o e => sb.extBut b o (Nat.ne_of_lt (Heap.lt_size e)) (Heap.get?_push_of_some _ e)
    have J2 := lam_start4 (A := A.deeper (envOfC qg sg s.heap.objs.size g cdg)) (outer := envOfC qg sg s.heap.objs.size g cdg :: stk) (E := WE W τ) (f := f) (cc := cc) (tk := s1.toks + ([] : List (Str × Value)).length) R LS J1.env0 hr.hd ns kp
    refine PySem.W.kla_codeExpr (wpAny_mono ((hb _ _ s1 G' (WE W τ) f cc (hr.deeper _)).run [] _ _ G' Q J2 hh.2.2.2) (fun v s2 w => ?_) fun _ _ w => w)
    exact w.elim fun y w => w.elim fun G2 w => ⟨y, G2, w.1.os, w.1.bare, w.1.base, w.1.hok, w.2.1, w.2.2⟩
  refine wpAny_call (codeAny_mono told fun r s2 w => ?_)
  rcases r with e | fl
  · exact passAt tk τ pz G' s1 e s2 J1 w
  · cases fl with
    | ret u => exact J1.after w
    | _ => exact False.elim w
end
/-- an expression at the slots σ0 -/
def DEs (Y : Cx) (W : WX) (σ0 : L2.St) (e : Expr) (f : S → R D) : Prop := PE Y e (fun σ H Q => σ = σ0 ∧ tDE Y W f σ H Q)
theorem DE.at_ {Y : Cx} {W : WX} {σ0 : L2.St} {e : Expr} {f : S → R D} (h : DE Y W e f) : DEs Y W σ0 e f := pe_imp h fun σ H Q z => z.2
/-- x(lambda: body), x run over the greater base -/
theorem de_wordB {X : Cx} {W : WX} {x a y q : Str} {g c P : Addr} {k : Nat} {N2 : List Str} {sg : Scope} {l : List (Value × Option Str)} {pg : Arguments} {bg : List Stmt} {dV kV doc pm cdv ct oc : Value} {an od : Option Addr} {osl : Array (Option Value)}
    {params : Arguments} {body : Expr} {scope : Scope} {fb : S → R D} {wd : Str → Option Str} {p lpos pos : Pos} (hg : Gl X x) (hm : X.mg x = some (.ref g)) (hk : PySem.W.keepIn X.K (.ref g) = true)
    (lk : X.K.lookup g = some ⟨oc, od, .func (PySem.W.fnOf x x pg bg sg dV kV doc pm an cdv ct), osl⟩) (hcg : PySem.W.codeIn X.K cdv x = true) (bn : L2.Binds X.K (PySem.W.fnOf x x pg bg sg dV kV doc pm an cdv ct) [a] []) (Sg : FnScope (a :: y :: N2) [a] sg) (hva : Vis sg a)
    (gv : ∀ b2 : Heap, Gives { X with base := b2 } (a :: y :: N2) x sg g cdv bg a (X.env.qual ++ "<lambda>") (TTw X.K l))
    (hw : ∀ n w C, wd n = some w → ECl X.mg n C → wdOf X.K C l = some w)
    (TB : TabB X.base X.mg c P) (hcode : X.env.code = .ref c) (hmT : (P, X.env.qual ++ "<lambda>") ∈ lamT) (hu : ∀ p ∈ lamT, p.1 = P → p.2 = X.env.qual ++ "<lambda>") (hr : Room (k + 2) X.A) (L : LamS X.env.scope scope) (nodef : defaultsOf params X.env = ([], []))
    (bnd : ∀ (q : Str) (cl : List (Str × Addr)) (pm cv ctv : Value), bindArgs (PySem.W.kla_fn "<lambda>" q params body scope cl pm cv ctv) ⟨[], []⟩ = pure []) (hfn : ∀ x, X.fn x = true)
    (hb : ∀ (σ : L2.St) (b2 : Heap), Rdy X σ b2 → ∀ (A : Around) (outer : List Env) (s : Shared) (H : Hp) (E : XK) (f cc : Addr), Room k (A.deeper (lamEnv X scope s.heap.objs.size f cc)) → DEs (lamCx2 X b2 A outer s H E scope f cc) (fun cls d _ H => E cls d H) σ body fb)
    (hdb : (x == ("__debug__" : Str)) = false := by decide) (hd : (a == ("__debug__" : Str)) = false := by decide) (hcd : (a == ("__classdict__" : Str)) = false := by decide) :
    DE X W (.Call (.Name x p) [.Lambda params body scope lpos] [] pos) (fW wd fb) := by
  constructor
  rintro pins s σ H Q I ⟨va, st, HP, rl, h⟩
  refine wpAny_Call_Name_kw (ld_glob I hg hm (PySem.W.callWith_K (h₀ := X.base) I.ok.mod.kin hk ?_ (by rfl) (by rfl)) hdb)
  show wpAny _ _ (spliced ((false, eval (.Lambda params body scope lpos) X.env) :: backTo pos (starEach [] X.env))) _ _ s
  refine Calls.spliced_cons (lam_make3 I TB hcode hmT hu rl.tab.t nodef (L.has I.ok) fun f cc G s2 grow tabs nF hcc J => Calls.spliced_nil ⟨J.kIn, ?_⟩)
  have s1 := rl.grow grow tabs
  have s2' := s1.rel.note hcc
  have s3 := s2'.rel.laid (o := LamO f cc (X.env.qual ++ "<lambda>") ⟨params, body, scope⟩ X.env.cells) nF (fun _ z => by unfold LamO at z; cases z)
  have nPf : f ≠ cc := fun z => by rw [z, hcc] at nF; cases nF
  have st3 := s1.trans (s2'.trans s3)
  have R : Rdy X σ (bigB s2.heap (upd G f (LamO f cc (X.env.qual ++ "<lambda>") ⟨params, body, scope⟩ X.env.cells)) X.stack) := rdy_of J hfn J.stkSub (Env0.into J.env0)
  have e2 := Env0.big J.env0
  have told : codeAny (model X.prog X.w) X.A (.call (.ref g) ⟨[.ref f], []⟩) (CR C8.CX0 X.stack X.prog X.w (upd G f (LamO f cc (X.env.qual ++ "<lambda>") ⟨params, body, scope⟩ X.env.cells)) s2 Q C8.E0) s2 := by
    refine run_ofS (N := a :: y :: N2) (ps := [a]) (us := [.ref f]) (vs := [.ref f]) lk hcg Sg hr e2 (bn s2 [.ref f] J.kIn rfl) (.cons rfl .nil) rfl fun hr2 => ?_
    have go := gv (bigB s2.heap (upd G f (LamO f cc (X.env.qual ++ "<lambda>") ⟨params, body, scope⟩ X.env.cells)) X.stack) f cc s2 (upd G f (LamO f cc (X.env.qual ++ "<lambda>") ⟨params, body, scope⟩ X.env.cells)) Q
      (fun E G Q => G f = some (LamO f cc (X.env.qual ++ "<lambda>") ⟨params, body, scope⟩ X.env.cells) ∧ ∃ va s HP, Rel X.K va s σ HP G ∧ ∀ Y : Cx, Y.K = X.K → Y.mg = X.mg → PoE Y (fun cls d _ H => E cls d H) va s σ HP G (fb s) Q)
      (fun W pn xe p1 p2 tk => pe_imp (pe_actB2 (X := X) (b2 := bigB s2.heap (upd G f (LamO f cc (X.env.qual ++ "<lambda>") ⟨params, body, scope⟩ X.env.cells)) X.stack) (A := X.A) (stk := X.stack) (L := ⟨params, body, scope⟩) (i := 0) (t := fun E σ' H Q => σ' = σ ∧ ∃ va s HP, Rel X.K va s σ HP H ∧ ∀ Y : Cx, Y.K = X.K → Y.mg = X.mg → PoE Y (fun cls d _ H => E cls d H) va s σ HP H (fb s) Q) (f := f) (cc := cc) R L (fun cl pm cv ctv => bnd _ _ _ _ _) tk hr2
        (fun A2 outer2 s3 H3 E3 f3 cc3 hr3 => pe_imp (hb σ _ R A2 outer2 s3 H3 E3 f3 cc3 hr3) fun σ' H Q ⟨eσ, va, s, HP, rl, h⟩ => ⟨eσ, va, s, HP, by rw [eσ]; exact rl, by rw [eσ]; exact h _ rfl rfl⟩) rfl hva hd hcd) fun τ G Q ⟨h1, h2, h3, h4⟩ => ⟨h1, h2, h3, rfl, h4⟩)
      (by rw [upd_ne (Ne.symm nPf)]; exact hcc)
    refine Exists.elim (go ?_) fun t2 w2 => ⟨t2, w2.1.nox, w2.2⟩
    · intro E Q' hE hQ
      refine ⟨upd_same, va, st, _, st3.rel, fun Y eK em => ?_⟩
      unfold fW at h
      cases e : fb st with
      | stuck => rw [e] at h; exact h.elim
      | ok d s' =>
        rw [e] at h
        intro v H' HP' st2 dv
        rw [eK] at st2
        exact hQ _ _ (h (.str "") H' HP' (st3.trans st2) (.str _))
      | exc n p s' =>
        rw [e] at h
        dsimp only at h
        intro dd H' HP' C st2 hx hC
        rw [eK] at st2
        rw [em] at hC
        cases ew : wd n with
        | none => rw [ew] at h; exact h.elim
        | some w =>
          rw [ew] at h
          exact hE _ _ _ w (hw n w C ew hC) (h (.str w) H' HP' (st3.trans st2) (.str _))
  refine wpAny_call (codeAny_mono told fun r s3 w => ?_)
  rcases r with e | fl
  · exact (show False from w).elim
  · cases fl with
    | ret u => exact J.after w
    | _ => exact False.elim w
end DL

namespace DL
open PySem PySem.Spec PyProof.Rows L2 LamX
/-! ## defs of the module with an object ahead -/
def HasG (P : Program) (w : World) (K : PySem.W.Frag) (mg : Str → Option Value) (base : Heap) (k : Nat) (x : Str) (ps : List Str) (m : FMo) : Prop := ∃ f fd, FnO P w K mg base k f fd ps m ∧ mg x = some (.ref f) ∧ PySem.W.keepIn K (.ref f) = true ∧ Binds K fd ps []
def HasG2 (P : Program) (w : World) (K : PySem.W.Frag) (mg : Str → Option Value) (base : Heap) (k : Nat) (x : Str) (ps : List Str) (m : FM2) : Prop := ∃ f fd, Fn2 P w K mg base k f fd ps m ∧ mg x = some (.ref f) ∧ PySem.W.keepIn K (.ref f) = true ∧ Binds K fd ps []
def call2 (i j : Nat) (m : FM2) (s : S) : R D := if i ≠ j then (match getO i s, getO j s with
  | some (n, p), some (n', p') => match m n p n' p' with
    | .ok d n1 p1 n2 p2 => .ok d ((s.put i (.obj n1 p1)).put j (.obj n2 p2))
    | .stuck => .stuck
  | _, _ => .stuck) else .stuck
section
variable {X : Cx} {W : WX} {k : Nat} {ps : List Str} {mm : FMo} {m2 : FM2} {x y z : Str} {p py pz pos : Pos} {e : Expr} {es : List Expr} {ga : S → R (List D)}
theorem de_callG (i : Nat) (G : HasG X.prog X.w X.K X.mg X.base k x ps mm) (tk : Takes X W) (hr : Room k X.A) (ha : DA X W es ga) (hN : X.N[i]? = some y := by rfl) (hv : Vis X.env.scope y := by first | exact Or.inl rfl | exact Or.inr (Or.inl rfl) | exact Or.inr (Or.inr rfl))
    (hd : (y == ("__debug__" : Str)) = false := by decide) (hcd : (y == ("__classdict__" : Str)) = false := by decide)
    (hg : Gl X x := by rfl) (hdb : (x == ("__debug__" : Str)) = false := by decide) (he : starEach (.Name y py :: es) X.env = (false, eval (.Name y py) X.env) :: starEach es X.env := by rfl) (hpl : (backTo pos (starEach es X.env)).any (·.1) = false := by rfl) :
    DE X W (.Call (.Name x p) (.Name y py :: es) [] pos) (fun s => if (getO i s).isSome = true then (ga s).bind fun ds s => callO i mm ps.length ds s else .stuck) := by
  obtain ⟨f, fd, F, hm, hk, hb⟩ := G
  refine pe_imp (pe_callS (E := WE W) F hr hg hm hk hb (fun σ => passAt tk σ) (pa_cons (pv i hN hv hd hcd) ha he) hdb he hpl) fun σ H Q h => ?_
  obtain ⟨va, s, HP, rl, h⟩ := h
  dsimp only at h
  split at h
  · rename_i ho
    obtain ⟨⟨n, p⟩, q⟩ := Option.isSome_iff_exists.mp ho
    obtain ⟨a, e1, e2, dx, v1, v2, e3, d1, d2⟩ := rl.ob.at_ i n p (getO_some q)
    exact ⟨.ref a, e1, bindAE rl h fun ds s1 vs H1 HP1 st1 dv p1 => callO_po st1.rel e1 dv p1⟩
  · exact h.elim
theorem de_call2 (i j : Nat) (G : HasG2 X.prog X.w X.K X.mg X.base k x ps m2) (hr : Room k X.A) (hN : X.N[i]? = some y := by rfl) (hv : Vis X.env.scope y := by first | exact Or.inl rfl | exact Or.inr (Or.inl rfl) | exact Or.inr (Or.inr rfl)) (hd : (y == ("__debug__" : Str)) = false := by decide) (hcd : (y == ("__classdict__" : Str)) = false := by decide)
    (hN2 : X.N[j]? = some z := by rfl) (hv2 : Vis X.env.scope z := by first | exact Or.inl rfl | exact Or.inr (Or.inl rfl) | exact Or.inr (Or.inr rfl)) (hd2 : (z == ("__debug__" : Str)) = false := by decide) (hcd2 : (z == ("__classdict__" : Str)) = false := by decide)
    (hg : Gl X x := by rfl) (hdb : (x == ("__debug__" : Str)) = false := by decide) (he : starEach [.Name y py, .Name z pz] X.env = (false, eval (.Name y py) X.env) :: starEach [.Name z pz] X.env := by rfl) (he2 : starEach [.Name z pz] X.env = (false, eval (.Name z pz) X.env) :: starEach [] X.env := by rfl) (hpl : (backTo pos (starEach [.Name z pz] X.env)).any (·.1) = false := by rfl) :
    DE X W (.Call (.Name x p) [.Name y py, .Name z pz] [] pos) (call2 i j m2) := by
  obtain ⟨f, fd, F, hm, hk, hb⟩ := G
  refine pe_imp (pe_call (dvs := []) (ds := []) (E := fun _ _ _ => False) F hr hg hm hk hb .nil (fun _ _ _ _ _ _ _ z => (cx_false z).elim) (pa_cons (pv i hN hv hd hcd) (pa_cons (pv j hN2 hv2 hd2 hcd2) pa_nil he2) he) hdb he hpl) fun σ H Q h => ?_
  obtain ⟨va, s, HP, rl, h⟩ := h
  unfold call2 at h
  split at h
  · rename_i hij
    split at h
    · rename_i n p n' p' q1 q2
      have q1' := getO_some q1
      have q2' := getO_some q2
      obtain ⟨a, e1, o1⟩ := rl.ob.at_ i n p q1'
      obtain ⟨b, e2, o2⟩ := rl.ob.at_ j n' p' q2'
      have hab : a ≠ b := fun z => by subst z; exact rl.ob.dis i j n p n' p' a hij q1' q2' e1 e2
      refine ⟨.ref a, e1, .ref b, e2, a, b, HP, n, p, n', p', rfl, hab, rl.sub, o1, o2, rl.tab, ?_⟩
      split at h
      · rename_i d n1 p1 n2 p2 z
        try rw [z]
        intro v H' HP' fg dv
        exact h.fin_at (rl.objAt2 hij q1' q2' e1 e2 fg) dv
      · exact h.elim
    · exact h.elim
  · exact h.elim
end
/-! ## methods whose promise holds over a greater base -/
section
variable {X : Cx} {W : WX} {k n : Nat} {m y : Str} {g : Addr} {py apos pos : Pos} {e : Expr} {es : List Expr} {ga : S → R (List D)} {mA : S → FMo} {cap : S → Bool}
/-- what is known of the captured slots stays -/
theorem de_methBig (i : Nat) (oc : OC X.K) (hm : Meth X.K objC m g)
    (FA : ∀ (σ : L2.St) (b2 : Heap) (s : S) (va : VA) (HP H : Hp), Rdy X σ b2 → Rel X.K va s σ HP H → cap s = true → FnR X.prog X.w X.K X.mg b2 (L2.CX X.prog X.w) k g (spO X.K X.mg n (mA s)))
    (tk : Takes X W) (hr : Room k X.A) (ha : DA X W (e :: es) ga) (hfn : ∀ x, X.fn x = true := by intro _; rfl)
    (h1 : (m == obf1) = false := by decide +kernel) (h2 : (m == obf2) = false := by decide +kernel) (hN : X.N[i]? = some y := by rfl) (hv : Vis X.env.scope y := by first | exact Or.inl rfl | exact Or.inr (Or.inl rfl) | exact Or.inr (Or.inr rfl))
    (hd : (y == ("__debug__" : Str)) = false := by decide) (hcd : (y == ("__classdict__" : Str)) = false := by decide) {pl : Sem Bool}
    (hst : starEach (e :: es) X.env = (false, eval e X.env) :: starEach es X.env := by rfl) (hpl : (backTo pos (starEach es X.env)).any (·.1) = false := by rfl)
    (ht : eval (.Call (.Attribute (.Name y py) m apos) (e :: es) [] pos) X.env = (do
      let ov ← eval (.Name y py) X.env
      standAt apos.atName
      let (f, first) ← holding [ov] (getMethod ov m pl)
      callWith pos f first (backTo pos (starEach (e :: es) X.env)) (backToKw pos (keywordEach [] X.env))) := by rfl) :
    DE X W (.Call (.Attribute (.Name y py) m apos) (e :: es) [] pos) (fun s => if (getO i s).isSome = true then (ga s).bind fun ds s => if cap s = true then callO i (mA s) n ds s else .stuck else .stuck) := by
  constructor
  rintro pins s σ H Q I ⟨va, st, HP, rl, h⟩
  dsimp only at h
  split at h
  · rename_i ho
    obtain ⟨⟨n0, p0⟩, q0⟩ := Option.isSome_iff_exists.mp ho
    obtain ⟨a, ea, nP, dx, v1, v2, e3, d1, d2⟩ := rl.ob.at_ i n0 p0 (getO_some q0)
    refine PySem.W.methodCall_KW (pl := pl) (thn ((pv i hN hv hd hcd).run pins s σ H (fun v G => v = .ref a ∧ G = H) I ⟨.ref a, ea, rfl, rfl⟩) fun u s1 w => ?_) ht
    obtain ⟨v, G, I1, ru, rfl, rfl⟩ := w
    obtain rfl : u = Value.ref a := ru
    refine getmeth_ok I1 e3 oc.cls hm (look_not h1 h2) ?_
    refine PySem.W.callWith_K (first := [.ref a]) (h₀ := X.base) I.ok.mod.kin hm.kp (thn (ha.run pos pins s1 σ G (fun vs G2 => ∃ ds s2 HP2, Stp X.K va st σ HP G s2 σ HP2 G2 ∧ DvA X.K HP2 vs ds ∧ PoE X W va s2 σ HP2 G2 (if cap s2 = true then callO i (mA s2) n ds s2 else .stuck) Q) I1
      (bindAE rl h fun ds s2 vs H2 HP2 st2 dv p1 => ⟨ds, s2, HP2, st2, dv, p1⟩)) fun us s2 w => ?_) hst hpl
    obtain ⟨vs, G2, I2, r2, ds, st2, HP2, stp, dv, p1⟩ := w
    refine ⟨I2.kIn, ?_⟩
    split at p1
    · rename_i hc
      have R : Rdy X σ (bigB s2.heap G2 X.stack) := rdy_of I2 hfn I2.stkSub (Env0.into I2.env0)
      have F := FA σ _ st2 va HP2 G2 R stp.rel hc
      refine wpAny_call (codeAny_mono (F X.A X.stack s2 G2 (.ref a :: us) (.ref a :: vs) Q (WE W σ) hr (Env0.big I2.env0) (.cons rfl r2) (callO_po stp.rel ea dv p1)) fun r s3 hq => ?_)
      cases r with
      | error e => exact passAt tk σ pins G2 s2 e s3 I2 hq
      | ok fl =>
        cases fl with
        | ret u => exact I2.after hq
        | next => exact False.elim hq
        | brk => exact False.elim hq
        | cont => exact False.elim hq
    · exact p1.elim
  · exact h.elim
/-- the same in a frame that runs over the greater base already, at the slots σ0 -/
theorem de_methAt {Y : Cx} {W : WX} {σ0 : L2.St} (i : Nat) (oc : OC Y.K) (hm : Meth Y.K objC m g)
    (FA : ∀ (s : S) (va : VA) (HP H : Hp), Rel Y.K va s σ0 HP H → cap s = true → FnR Y.prog Y.w Y.K Y.mg Y.base (L2.CX Y.prog Y.w) k g (spO Y.K Y.mg n (mA s)))
    (tk : Takes Y W) (hr : Room k Y.A) (ha : DA Y W (e :: es) ga)
    (h1 : (m == obf1) = false := by decide +kernel) (h2 : (m == obf2) = false := by decide +kernel) (hN : Y.N[i]? = some y := by rfl) (hv : Vis Y.env.scope y := by first | exact Or.inl rfl | exact Or.inr (Or.inl rfl) | exact Or.inr (Or.inr rfl))
    (hd : (y == ("__debug__" : Str)) = false := by decide) (hcd : (y == ("__classdict__" : Str)) = false := by decide) {pl : Sem Bool}
    (hst : starEach (e :: es) Y.env = (false, eval e Y.env) :: starEach es Y.env := by rfl) (hpl : (backTo pos (starEach es Y.env)).any (·.1) = false := by rfl)
    (ht : eval (.Call (.Attribute (.Name y py) m apos) (e :: es) [] pos) Y.env = (do
      let ov ← eval (.Name y py) Y.env
      standAt apos.atName
      let (f, first) ← holding [ov] (getMethod ov m pl)
      callWith pos f first (backTo pos (starEach (e :: es) Y.env)) (backToKw pos (keywordEach [] Y.env))) := by rfl) :
    DEs Y W σ0 (.Call (.Attribute (.Name y py) m apos) (e :: es) [] pos) (fun s => if (getO i s).isSome = true then (ga s).bind fun ds s => if cap s = true then callO i (mA s) n ds s else .stuck else .stuck) := by
  constructor
  rintro pins s σ H Q I ⟨rfl, va, st, HP, rl, h⟩
  dsimp only at h
  split at h
  · rename_i ho
    obtain ⟨⟨n0, p0⟩, q0⟩ := Option.isSome_iff_exists.mp ho
    obtain ⟨a, ea, nP, dx, v1, v2, e3, d1, d2⟩ := rl.ob.at_ i n0 p0 (getO_some q0)
    refine PySem.W.methodCall_KW (pl := pl) (thn ((pv i hN hv hd hcd).run pins s σ H (fun v G => v = .ref a ∧ G = H) I ⟨.ref a, ea, rfl, rfl⟩) fun u s1 w => ?_) ht
    obtain ⟨v, G, I1, ru, rfl, rfl⟩ := w
    obtain rfl : u = Value.ref a := ru
    refine getmeth_ok I1 e3 oc.cls hm (look_not h1 h2) ?_
    refine PySem.W.callWith_K (first := [.ref a]) (h₀ := Y.base) I.ok.mod.kin hm.kp (thn (ha.run pos pins s1 σ G (fun vs G2 => ∃ ds s2 HP2, Stp Y.K va st σ HP G s2 σ HP2 G2 ∧ DvA Y.K HP2 vs ds ∧ PoE Y W va s2 σ HP2 G2 (if cap s2 = true then callO i (mA s2) n ds s2 else .stuck) Q) I1
      (bindAE rl h fun ds s2 vs H2 HP2 st2 dv p1 => ⟨ds, s2, HP2, st2, dv, p1⟩)) fun us s2 w => ?_) hst hpl
    obtain ⟨vs, G2, I2, r2, ds, st2, HP2, stp, dv, p1⟩ := w
    refine ⟨I2.kIn, ?_⟩
    split at p1
    · rename_i hc
      have F := FA st2 va HP2 G2 stp.rel hc
      refine wpAny_call (codeAny_mono (F Y.A Y.stack s2 G2 (.ref a :: us) (.ref a :: vs) Q (WE W σ) hr I2.env0 (.cons rfl r2) (callO_po stp.rel ea dv p1)) fun r s3 hq => ?_)
      cases r with
      | error e => exact passAt tk σ pins G2 s2 e s3 I2 hq
      | ok fl =>
        cases fl with
        | ret u => exact I2.after hq
        | next => exact False.elim hq
        | brk => exact False.elim hq
        | cont => exact False.elim hq
    · exact p1.elim
  · exact h.elim
end
/-! ## append as an expression -/
def apndE (i : Nat) (d : D) (s : S) : R D := match s.sl[i]? with
  | some (some (.own xs)) => if xs.length < sizeLine then .ok .non (s.put i (.own (xs ++ [d]))) else .stuck
  | _ => .stuck
theorem de_appE {X : Cx} {W : WX} {σ0 : L2.St} {a : Expr} {fa : S → R D} (i : Nat) {x : Str} {p2 ap cp : Pos} (ha : DEs X W σ0 a fa) (hN : X.N[i]? = some x := by rfl) (hv : Vis X.env.scope x := by first | exact Or.inl rfl | exact Or.inr (Or.inl rfl) | exact Or.inr (Or.inr rfl))
    (hd : (x == ("__debug__" : Str)) = false := by decide) (hcd : (x == ("__classdict__" : Str)) = false := by decide)
    (hb : attributeBase (.Name x p2) "append" X.env (eval (.Name x p2) X.env) = eval (.Name x p2) X.env := by rfl) (hline : (ap.endLine == cp.line) = true := by rfl)
    (he : starEach (a :: []) X.env = (false, eval a X.env) :: starEach [] X.env := by rfl)
    (hfew : ((backTo cp (starEach (a :: []) X.env)).all (fun x => !x.1) && (backToKw cp (keywordEach [] X.env)).all (fun x => x.1.isSome) && decide ((a :: []).length + ([] : List Keyword).length + (if ([] : List Keyword).isEmpty then 0 else 1) < 30)) = true := by rfl) :
    DEs X W σ0 (.Call (.Attribute (.Name x p2) "append" ap) [a] [] cp) (fun s => if isOwn i s = true then (fa s).bind fun d s => apndE i d s else .stuck) := by
  refine pe_imp (pe_bm PySem.F.plainAttrs_list PySem.F.slot_list_append PySem.F.type_list_append mt_append (pv i hN hv hd hcd) (pa_cons ha pa_nil he) hb hfew hline he rfl) fun σ H Q h => ?_
  obtain ⟨rfl, va, s, HP, rl, h⟩ := h
  dsimp only at h
  split at h
  · rename_i ho
    unfold isOwn at ho
    split at ho
    · rename_i xs q
      obtain ⟨b, vs, h1, h2, h3, hz, h4⟩ := rl.own i xs q
      refine ⟨_, h1, .inl ⟨rfl, vs, SqL.of h3⟩, rfl, ?_⟩
      refine bindEE rl h fun d s1 v H1 HP1 st1 d1 p1 => ?_
      unfold apndE at p1
      split at p1
      · rename_i ys q1
        split at p1
        · rename_i hl
          obtain ⟨b', ws, y1, y2, y3, yz, y4⟩ := st1.rel.own i ys q1
          rw [h1] at y1
          injection y1 with y1; injection y1 with y1; injection y1 with y1
          subst y1
          refine ⟨b, ws, v, rfl, rfl, y3, by rw [y4.length]; exact hl, ?_⟩
          exact p1.fin_at (st1.rel.chg q1 h1 (by rw [List.length_append, List.length_singleton]; exact hl) (y4.append (.cons d1 .nil))) .non
        · exact p1.elim
      · exact p1.elim
    · cases ho
  · exact h.elim
theorem apndE_mk (i : Nat) (d : D) (l : List (Option Sl)) (w : Option (List D)) (xs : List D) (h : l[i]? = some (some (.own xs))) (hz : xs.length < 100) : apndE i d ⟨l, w⟩ = .ok .non ⟨l.set i (some (.own (xs ++ [d]))), w⟩ := by
  unfold apndE
  simp only [h]
  rw [if_pos (by rw [sizeLine_eq]; omega)]
  rfl
end DL

namespace DL
open PySem PySem.Spec PyProof.Rows L2 LamX NdefX
/-! ## a def of the module that stands in a slot, called with the object of a slot -/
def actR (i j : Nat) (f : Addr) (m : D → D → FRo) (s : S) : R D := match s.sl[j]? with
  | some (some (.val (.ref f'))) => if f' = f then (match getO i s with
    | some (n, p) => resO i (m n p) s
    | none => .stuck) else .stuck
  | _ => .stuck
section
variable {Y : Cx} {W : WX} {k : Nat} {f : Addr} {fd : FuncData} {ps : List Str} {m : FMo} {x y : Str} {p py pos : Pos}
theorem de_actR (i j : Nat) (F : FnO Y.prog Y.w Y.K Y.mg Y.base k f fd ps m) (hb : Binds Y.K fd ps []) (hl : ps.length = 1) (hk : PySem.W.keepIn Y.K (.ref f) = true) (hr : Room k Y.A) (tk : Takes Y W) (hN : Y.N[i]? = some y := by rfl) (hv : Vis Y.env.scope y := by first | exact Or.inl rfl | exact Or.inr (Or.inl rfl) | exact Or.inr (Or.inr rfl))
    (hd : (y == ("__debug__" : Str)) = false := by decide) (hcd : (y == ("__classdict__" : Str)) = false := by decide) (hN2 : Y.N[j]? = some x := by rfl) (hv2 : Vis Y.env.scope x := by first | exact Or.inl rfl | exact Or.inr (Or.inl rfl) | exact Or.inr (Or.inr rfl))
    (hd2 : (x == ("__debug__" : Str)) = false := by decide) (hcd2 : (x == ("__classdict__" : Str)) = false := by decide) (he : starEach [.Name y py] Y.env = (false, eval (.Name y py) Y.env) :: starEach [] Y.env := by rfl) (hpl : (backTo pos (starEach [] Y.env)).any (·.1) = false := by rfl) :
    DE Y W (.Call (.Name x p) [.Name y py] [] pos) (actR i j f (fun n p => m n p [])) := by
  constructor
  rintro pins s σ H Q I ⟨va, st, HP, rl, h⟩
  unfold actR at h
  split at h
  · rename_i f' e
    split at h
    · rename_i hq
      subst hq
      cases e2 : getO i st with
      | none => rw [e2] at h; exact h.elim
      | some np =>
        obtain ⟨n, p'⟩ := np
        rw [e2] at h
        dsimp only at h
        obtain ⟨v, hσ, dv⟩ := rl.val j _ e
        obtain ⟨a, ha, ob⟩ := rl.ob.at_ i n p' (getO_some e2)
        have hv0 : v = .ref f' := by cases dv; rfl
        subst hv0
        refine wpAny_Call_Name_kw (thn ((pe_var (pos := p) (i := j) hN2 hv2 hd2 hcd2).run pins s σ H (fun v G => v = .ref f' ∧ G = H) I ⟨.ref f', hσ, rfl, rfl⟩) fun u s1 w => ?_)
        obtain ⟨v, G', J1, rv, rfl, rfl⟩ := w
        obtain rfl : u = Value.ref f' := rv
        refine PySem.W.callWith_K (first := []) (h₀ := Y.base) J1.ok.mod.kin hk (thn ((pa_cons (pv i hN hv hd hcd) pa_nil he).run pos pins s1 σ G' (fun vs G => vs = [.ref a] ∧ G = G') J1 ⟨.ref a, ha, rfl, rfl⟩) fun us s2 w => ?_) he hpl
        obtain ⟨vs, G2, J2, rv2, rfl, rfl⟩ := w
        refine ⟨J2.kIn, run_fnS (E := WE W) F hr hb (passAt tk σ) J2 rv2 ?_⟩
        exact ⟨a, HP, [], [], n, p', rfl, by rw [hl]; rfl, rl.sub, .nil, ob, rl.tab, resO_po (Y := Y) (K := Y.K) rl e2 ha h⟩
    · exact h.elim
  · exact h.elim
end
end DL

namespace DL
open PySem PySem.Spec PyProof.Rows L2 LamX NdefX
/-! ## a written dict, asked for a key that it lacks -/
section
variable {K : PySem.W.Frag} {va : VA} {s s' : S} {σ σ' : L2.St} {HP H HP' H' : Hp} {a : Addr} {kvs : List (Key × V)}
theorem tab_delD {T : List (Addr × Str)} (t : LamX.Tabs T H) (h : H a = some (.dK kvs)) : LamX.Tabs T (del H a) := fun p hp => by
  obtain ⟨ps, h1, h2, h3⟩ := t p hp
  have n1 : p.1 ≠ a := fun z => by rw [z, h] at h1; cases h1
  refine ⟨ps, by rw [del_ne n1]; exact h1, h2, fun pos cv hc => ?_⟩
  obtain ⟨c, e1, e2⟩ := h3 pos cv hc
  have n2 : c ≠ a := fun z => by
    rw [z, h] at e2
    unfold LamX.CodeO at e2
    cases e2
  exact ⟨c, e1, by rw [del_ne n2]; exact e2⟩
theorem rel_lessD (r : Rel K va s σ HP H) (n : ¬ Owns va s σ a) (nP : HP a = none) (hA : H a = some (.dK kvs)) : Rel K va s σ HP (del H a) :=
  ⟨r.len, fun b o q => by rw [del_ne (ne_of_none q nP)]; exact r.sub b o q, r.val, fun i xs q => by
    obtain ⟨b, vs, h1, h2, h3, h4⟩ := r.own i xs q
    have ne : b ≠ a := fun z => n (.inl ⟨i, xs, q, by rw [← z]; exact h1⟩)
    exact ⟨b, vs, h1, h2, by rw [del_ne ne]; exact h3, h4⟩, r.vis, fun xs q => by
    obtain ⟨h1, vs, h2, h3⟩ := r.vst xs q
    have ne : va.a ≠ a := fun z => n (.inr ⟨by rw [q]; simp, z.symm⟩)
    exact ⟨h1, vs, by rw [del_ne ne]; exact h2, h3⟩, r.dis, r.dvi, ⟨tab_delD r.tab.t hA, r.tab.n⟩, ⟨fun i n p q => (let ⟨a', h1, h2, dx, v1, v2, h3, d1, d2⟩ := r.ob.at_ i n p q; ⟨a', h1, h2, dx, v1, v2, (by rw [del_ne (fun z => by rw [z, hA] at h3; cases h3)]; exact h3), d1, d2⟩), r.ob.dis, r.ob.pin⟩⟩
theorem nD : NT (.dK kvs) := ⟨(fun _ z => nomatch z), (fun _ z => nomatch z), (fun _ _ z => nomatch z)⟩
theorem stp_delD (t : Stp K va s σ HP H s' σ' HP' H') (n : ¬ Owns va s σ a) (nP : HP a = none) (ha : H a = some (.dK kvs)) :
    H' a = some (.dK kvs) ∧ HP' a = none ∧ Stp K va s σ HP (del H a) s' σ' HP' (del H' a) := by
  obtain ⟨h1, h2, h3⟩ := t.keep a _ ha nD n
  refine ⟨h1, h3 nP, rel_lessD t.rel h2 (h3 nP) h1, t.same, fun b x q nt nb => ?_, t.via, fun b dx fs q z o => ?_⟩
  rotate_left
  · obtain ⟨ne, q'⟩ := del_some q
    obtain ⟨y1, y2, y3⟩ := t.kob b dx fs q' z o
    exact ⟨by rw [del_ne ne]; exact y1, y2, y3⟩
  obtain ⟨ne, q'⟩ := del_some q
  obtain ⟨y1, y2, y3⟩ := t.keep b x q' nt nb
  exact ⟨by rw [del_ne ne]; exact y1, y2, y3⟩
theorem upd_del2 {o : HO} : upd (del H a) a o = upd H a o := by
  funext b
  by_cases e : b = a
  · subst e; rw [upd_same, upd_same]
  · rw [upd_ne e, upd_ne e, del_ne e]
end
theorem de_dkey1 {X : Cx} {W : WX} {a1 : Expr} {f1 : S → R D} {k1 k2 : Str} {j1 j2 : Nat} {q1 q2 pd pos : Pos} (hc : X.calm = true) (tk : Takes X W) (hmk : X.mg "KeyError" = none) (h1 : DE X W a1 f1) (hu : X.A.units + 1 < cLine)
    (hv : ∀ v1 : V, valV (mergeK [] [(Sum.inr k1, v1)]) (Sum.inr k2) = none) (hs : NoSl (.Constant (.str k2) j2 q2) := by exact fun _ _ => rfl) :
    DE X W (.Subscript (.Dict [some (.Constant (.str k1) j1 q1)] [a1] pd) (.Constant (.str k2) j2 q2) pos) (fun s => (f1 s).bind fun _ s => .exc "KeyError" none s) := by
  refine pe_imp (pe_dgetX hc hu tk (pe_disp (pps_cons pe_str h1 pps_nil) rfl rfl (by simp) (Nat.le_of_ble_eq_true rfl)) pe_str hs) fun σ H Q h => ?_
  obtain ⟨va, s, HP, rl, h⟩ := h
  dsimp only at h
  intro p np
  have b := rl.beside (o := .dK []) np
  have no' : ¬ Owns va s σ p := rl.beside_own np
  have nP : HP p = none := rl.sub.free np
  show tDE X W f1 σ (upd H p (.dK [])) _
  refine bindE b.rel (fun d1 s1 v1 H1 HP1 e1 t1 dv1 => ?_) (fun n q s' dd H' HP' C e1 st z m => ?_) (fun e1 => ?_) <;> rw [e1] at h
  · obtain ⟨y1, y2, y4⟩ := stp_delD t1 no' nP upd_same
    rw [del_upd np] at y4
    refine ⟨y1, [(Sum.inr k1, v1)], rfl, Nat.le_of_ble_eq_true rfl, ?_⟩
    have c := y4.rel.beside (p := p) (o := .dK (mergeK [] [(Sum.inr k1, v1)])) del_same
    rw [upd_del2] at c
    have all := y4.trans c
    have g := DGet.k (k := Sum.inr k2) (a := p) (H := upd H1 p (.dK (mergeK [] [(Sum.inr k1, v1)]))) upd_same
    rw [hv] at g
    exact ⟨p, none, rfl, g, (fun v z => by cases z), fun _ dd => h dd _ _ (.type "KeyError") all rfl (.inr ⟨rfl, hmk, rfl⟩)⟩
  · exact h dd H' HP' C (b.trans st) z m
  · exact h
end DL

namespace DL
open PySem PySem.Spec PyProof.Rows L2 LamX NdefX
abbrev RoomH := L2H.RoomH
/-! ## defs called while something is handled, that raise nothing -/
structure FnA (P : Program) (w : World) (K : PySem.W.Frag) (mg : Str → Option Value) (base : Heap) (CX : CXT) (k : Nat) (f : Addr) (fd : FuncData) (ps : List Str) (sp : Sp) : Prop where
  len : ∀ vs H Q E, sp vs H Q E → vs.length = ps.length
  run : ∀ (A : Around) (outer : List Env) (s : Shared) (H : Hp) (args : PySem.Args) (us : List Value) (vs : List V) (Q : VK) (E : XK), RoomH k A → Env0 P w K mg base A outer s H → BindsTo s fd args (ps.zip us) → Vals vs us → sp vs H Q E →
    codeAny (model P w) A (.call (.ref f) args) (CR CX outer P w H s Q E) s
/-- the context of such a def's body -/
def cxA (CX : CXT) (P : Program) (w : World) (K : PySem.W.Frag) (mg : Str → Option Value) (base : Heap) (N : List Str) (qual : Str) (scope : Scope) (f : Addr) (cd : Value) (A : Around) (outer : List Env) (s : Shared) (H : Hp) (E : XK) : Cx :=
  { cxOf CX P w K mg base N qual scope f cd A outer s H E with calm := false }
theorem inv_startA {CX : CXT} {P : Program} {w : World} {K : PySem.W.Frag} {mg : Str → Option Value} {base : Heap} {N ps : List Str} {qual : Str} {scope : Scope} {f : Addr} {cd : Value} {A : Around} {outer : List Env} {s s1 : Shared} {H : Hp} {E : XK} {us : List Value} {vs : List V}
    (S : FnScope N ps scope) (e0 : Env0 P w K mg base A outer s H) (hl : vs.length = ps.length) (r : Vals vs us)
    (x : InCallC s s.heap.objs.size (bindL (envOfC qual scope s.heap.objs.size f cd).kindOf (ps.zip us) fun _ => none) (cellsFrom (s.heap.objs.size + 1) scope.names []) (bindC (envOfC qual scope s.heap.objs.size f cd).kindOf (ps.zip us) fun _ => none) s1) :
    Inv (cxA CX P w K mg base N qual scope f cd A outer s H E) [] (L2.start N vs) H s1 := by
  have hpl : ps.length ≤ N.length := by have := congrArg List.length S.pre; rw [List.length_take] at this; omega
  obtain ⟨h1, tk, rfl, hk⟩ := x.done
  have noA : ∀ b : Addr, b ∉ (cxA CX P w K mg base N qual scope f cd A outer s H E).ex := fun b z => absurd (show b ∈ ([] : List Addr) from z) (by simp)
  refine ⟨⟨e0.mod, S.kind, rfl, rfl, Nat.le_refl _, fun y z c h1 h2 => ?_, fun y hy => ?_, fun y c _ h => ?_, (fun z => Bool.noConfusion (show false = true from z)), Around.frames_deeper e0.frames, .inr ⟨rfl, rfl⟩, fun b z => absurd z (noA b), e0.bs, e0.bsz, fun b _ _ => noA b, fun b z => absurd z (noA b), e0.funs, e0.frf⟩,
    rfl, e0.bare, Un.kept hk, ⟨_, x.toInCall.ns, fun i y v h1 h2 h3 => ?_⟩, fun y c h => ⟨_, x.cell y c h⟩, e0.hok.fresh (Nat.le_refl _), fun y c h => ?_, fun q hq => ?_, e0.hok.kept hk, ?_⟩
  · exact name_of_addr x.apart (PySem.mem_of_lookup h1) (PySem.mem_of_lookup h2)
  · have hy : scope.names.lookup y = some .cell ∨ scope.names.lookup y = some .free := hy
    rcases hy with hy | hy
    · exact cell_has hy
    · exact absurd rfl (S.nofree _ (PySem.mem_of_lookup hy))
  · exact Nat.le_of_lt (x.above y c (PySem.mem_of_lookup h))
  · have hi : i < vs.length := by
      unfold L2.start at h2
      by_cases hi : i < vs.length
      · exact hi
      · rw [List.getElem?_append_right (by simpa using hi)] at h2
        rw [List.getElem?_replicate] at h2
        split at h2 <;> cases h2
    have ha : vs[i]? = some v := by
      unfold L2.start at h2
      rw [List.getElem?_append_left (by simpa using hi), List.getElem?_map] at h2
      cases e : vs[i]? with
      | none => rw [e] at h2; cases h2
      | some a => rw [e] at h2; cases h2; rfl
    obtain ⟨u, hu, rv⟩ := r.get ha
    have hp : ps[i]? = some y := by
      rw [← S.pre, List.getElem?_take_of_lt (by omega)]; exact h1
    have ndP : ps.Nodup := by rw [← S.pre]; exact S.nd.sublist (List.take_sublist _ _)
    refine ⟨u, rv, ?_⟩
    rcases S.par y (List.mem_of_getElem? hp) with k | k
    · exact .inl ⟨k, bindL_get ndP hp hu k⟩
    · obtain ⟨c, e⟩ := cell_has (n := s.heap.objs.size + 1) k
      refine .inr ⟨.inl k, c, e, ?_⟩
      have q := x.cell y c e
      rw [bindC_get ndP hp hu (by show scope.names.lookup y ≠ _; rw [k]; decide)] at q
      exact q
  · exact e0.hok.fresh (Nat.le_of_lt (x.above y c (PySem.mem_of_lookup h)))
  · exact absurd (show q ∈ ([] : List (Addr × Obj)) from hq) (by simp)
  · unfold L2.start
    show _ = N.length
    rw [List.length_append, List.length_map, List.length_replicate]
    omega
theorem fn_ofA {CX : CXT} {P : Program} {w : World} {K : PySem.W.Frag} {mg : Str → Option Value} {base : Heap} {k : Nat} {f : Addr} {name qual : Str} {params : Arguments} {body : List Stmt} {scope : Scope} {dV kV doc pm cdv ct oc : Value} {an od : Option Addr}
    {osl : Array (Option Value)} {N ps : List Str} {sp : Sp} (lk : K.lookup f = some ⟨oc, od, .func (PySem.W.fnOf name qual params body scope dV kV doc pm an cdv ct), osl⟩) (hcd : PySem.W.codeIn K cdv qual = true) (S : FnScope N ps scope)
    (len : ∀ vs H Q E, sp vs H Q E → vs.length = ps.length)
    (hbody : ∀ (A : Around) (outer : List Env) (s : Shared) (H : Hp) (vs : List V) (Q : VK) (E : XK), RoomH k (A.deeper (envOfC qual scope s.heap.objs.size f cdv)) → sp vs H Q E →
      ∃ t, PSs (cxA CX P w K mg base N qual scope f cdv A outer s H E) body t ∧ t { nx := fun _ H' => Q .non H', rt := Q } (L2.start N vs) H) :
    FnA P w K mg base CX (k + 1) f (PySem.W.fnOf name qual params body scope dV kV doc pm an cdv ct) ps sp := by
  refine ⟨len, fun A outer s H args us vs Q E hr e0 hb r hsp => ?_⟩
  have hl := len _ _ _ _ hsp
  have KX : K.In s.heap := e0.mod.kin.keeps fun b o e => (e0.bs b o e).1
  have lim : s.heap.NoLimit := e0.mod.nolimit.keeps fun b o e => (e0.bs b o e).1
  have hkind : ∀ y ∈ ps.zip us, scope.names.lookup y.1 = some .local ∨ (scope.names.lookup y.1 = some .cell ∧ ((cellsFrom (s.heap.objs.size + 1) scope.names []).lookup y.1).isSome = true) := fun ⟨n, v⟩ hy => by
    rcases S.par n (List.of_mem_zip hy).1 with q | q
    · exact .inl q
    · exact .inr ⟨q, PySem.W.cellsFrom_some _ _ _ (.inl q)⟩
  refine codeAny_call_function hr.depth (KX _ _ lk) rfl S.co S.gen rfl (PySem.W.codeRec_of KX hcd) (hb _ _ _ _ ?_)
  refine wpAny_newFunctionEnv_cells S.kind hkind fun env he s1 x => ?_
  subst he
  refine ⟨lim.keeps x.toInCall.keep, codeAny_func ?_⟩
  obtain ⟨t, ht, hq⟩ := hbody A outer s H vs Q E (hr.deeper _) hsp
  have I : Inv (cxA CX P w K mg base N qual scope f cdv A outer s H E) [] (L2.start N vs) H s1 := inv_startA S e0 hl r x
  refine wpAny_mono (ht.run [] s1 (L2.start N vs) H _ I hq) (fun fl s' hs => ?_) fun e s' hs => hs
  have fin : ∀ {σ' : St} {H' : Hp} {v : V} {u : Value}, Inv (cxA CX P w K mg base N qual scope f cdv A outer s H E) [] σ' H' s' → RelV v u → Q v H' → CE outer P w H s Q u s' :=
    fun {σ' H' v u} J rv q => ⟨v, H', J.os, J.bare, J.base, J.hok, rv, q⟩
  cases fl with
  | ret u =>
    obtain ⟨v, σ', H', J, rv, q⟩ := hs
    exact fin J rv q
  | next =>
    obtain ⟨σ', H', J, q⟩ := hs
    exact fin (v := V.non) (u := Value.none) J rfl q
  | brk =>
    obtain ⟨_, _, _, q⟩ := hs
    exact False.elim q
  | cont =>
    obtain ⟨_, _, _, q⟩ := hs
    exact False.elim q

def FnRA (P : Program) (w : World) (K : PySem.W.Frag) (mg : Str → Option Value) (base : Heap) (CX : CXT) (k : Nat) (f : Addr) (sp : Sp) : Prop :=
  ∀ (A : Around) (outer : List Env) (s : Shared) (H : Hp) (us : List Value) (vs : List V) (Q : VK) (E : XK), RoomH k A → Env0 P w K mg base A outer s H → Vals vs us → sp vs H Q E → codeAny (model P w) A (.call (.ref f) ⟨us, []⟩) (CR CX outer P w H s Q E) s
theorem fnRA_of {P : Program} {w : World} {K : PySem.W.Frag} {mg : Str → Option Value} {base : Heap} {CX : CXT} {k : Nat} {f : Addr} {fd : FuncData} {ps : List Str} {sp : Sp} (F : FnA P w K mg base CX k f fd ps sp) (hb : Binds K fd ps []) : FnRA P w K mg base CX k f sp := fun A outer s H us vs Q E hr e0 r h => by
  have hl : us.length = ps.length := by rw [← r.length]; exact F.len _ _ _ _ h
  have kin : K.In s.heap := e0.mod.kin.keeps fun b o q => (e0.bs b o q).1
  have b := hb s us kin (by rw [List.append_nil]; exact hl)
  rw [List.append_nil] at b
  exact F.run A outer s H ⟨us, []⟩ us vs Q E hr e0 b r h
theorem roomH_in1 {k : Nat} {A : Around} (r : RoomH (k + 1) A) : RoomH k A.in1 :=
  ⟨by have := r.dp; show A.depth + 3 * k + 5 < _; omega, by have := r.un; show A.units + 1 + 16 * k + 200 < _; omega⟩
section
variable {X : Cx} {W : WX} {k : Nat} {g : Addr} {sp : Sp}
theorem call_lenA (F : FnRA X.prog X.w X.K X.mg X.base (L2.CX X.prog X.w) k g sp) (hr : RoomH (k + 1) X.A) (hs : PySem.W.findIn X.K (.ref objC) "__len__" = some (some (.ref g))) (hf : PySem.W.isFn X.K (.ref g) = true) :
    CallR X (.builtin "len") (rLenO sp) := by
  intro pins s σ H xs us Q I rv h
  obtain ⟨a, dx, fs, rfl, ea, hsp⟩ := h
  obtain ⟨u, rfl, ru⟩ := vals1 rv
  obtain rfl : u = Value.ref a := ru
  obtain ⟨mA, O, _⟩ := ins_get I.hok ea
  obtain ⟨od, J, _⟩ := O.look
  obtain ⟨m, Fm⟩ := I.fr
  refine PySem.W.len_K Fm I.ok.mod.kin J hs hf (wpAny_call (codeAny_mono (F X.A.in1 X.stack s H [.ref a] [.ref a] _ _ (roomH_in1 hr) I.env0.in1 (.cons rfl .nil) hsp) fun r s' hq => ?_))
  cases r with
  | error e => exact (cx_false hq).elim
  | ok fl =>
    cases fl with
    | ret u =>
      obtain ⟨v, H', I3, rv3, n, rfl, n0, n1, q⟩ := I.after hq
      obtain ⟨t, rfl⟩ := (show ∃ t, u = Value.int n t from rv3)
      exact ⟨⟨n0, n1⟩, .int n, H', I3.tok _, ⟨_, rfl⟩, q⟩
    | next => exact False.elim hq
    | brk => exact False.elim hq
    | cont => exact False.elim hq
theorem op_eqA (F : FnRA X.prog X.w X.K X.mg X.base (L2.CX X.prog X.w) k g sp) (hr : RoomH k X.A) (c : CmpO X.K g) : OpR X (compareOp .Eq) (rCmpO sp id) := by
  rintro pins s σ H x y v u Q I rx ry ⟨a, b, dx, fs, dy, gs, rfl, rfl, ha, hb, hsp⟩
  obtain rfl : v = Value.ref a := rx
  obtain rfl : u = Value.ref b := ry
  obtain ⟨mA, J, _⟩ := ins_get I.hok ha
  obtain ⟨mB, J', _⟩ := ins_get I.hok hb
  obtain ⟨od, J, _⟩ := J.look
  obtain ⟨od', J', _⟩ := J'.look
  obtain ⟨m, hF⟩ := I.fr
  show wpAny (model X.prog X.w) X.A (richCompare .Eq (.ref a) (.ref b)) _ _ _
  refine PySem.W.cmp_K (op := .Eq) (tb := .ref objC) (by have := hr.un; omega) hF I.ok.mod.kin J J'.type (by simp [PySem.W.notFirst]) c.eq c.fn (wpAny_call (codeAny_mono (F X.A X.stack s H [.ref a, .ref b] [.ref a, .ref b] _ _ hr I.env0 (.cons rfl (.cons rfl .nil)) hsp) fun r s' hq => ?_))
  cases r with
  | error e => exact (cx_false hq).elim
  | ok fl =>
    cases fl with
    | ret w =>
      obtain ⟨z, H', I', rz, q, rfl, hQ⟩ := I.after hq
      cases rz
      exact ⟨.bl q, H', I', rfl, hQ⟩
    | next => exact False.elim hq
    | brk => exact False.elim hq
    | cont => exact False.elim hq
theorem od_eqA (hr : RoomH k X.A) : OpD X (compareOp .Eq) opEq := by
  refine ⟨_, op_eqD (by have := hr.un; omega), fun W va s σ HP H x y a b d Q rl dx dy e p => ?_⟩
  unfold opEq at e
  split at e <;> cases e
  rename_i hz
  obtain ⟨h1, h2⟩ := Bool.and_eq_true_iff.mp hz
  exact ⟨a.py, b.py, py_dp rl.sub a x 60 h1 dx, py_dp rl.sub b y 60 h2 dy, py_shaped h1, py_shaped h2, by rw [py_eqv a b 60 h1]; exact fin_bl p rl⟩
end
end DL

namespace DL
open PySem PySem.Spec PyProof.Rows L2 LamX NdefX
/-! ## such defs of an object -/
theorem fn_oA {P : Program} {w : World} {K : PySem.W.Frag} {mg : Str → Option Value} {base : Heap} {x qual : Str} {st : Stmt} {f : Addr} {fd : FuncData} {N ps : List Str} {k : Nat} {f' : S → T} (F : Fun K x qual st f fd) (Sc : FnScope N ps (defScope st))
    (body : ∀ (cdv : Value) (A : Around) (outer : List Env) (s : Shared) (H : Hp) (E : XK), RoomH k (A.deeper (envOfC qual (defScope st) s.heap.objs.size f cdv)) →
      DSs (cxA (L2.CX P w) P w K mg base N qual (defScope st) f cdv A outer s H E) (fun cls d _ H => E cls d H) (defBody st) f') :
    FnA P w K mg base (L2.CX P w) (k + 1) f fd ps (spO K mg ps.length (fun n p ds => (f' (stO N n p ds)).finO)) := by
  obtain ⟨o1, od, kV, doc, pm, an, cdv, ct, osl, rfl, lk, hcd⟩ := F.ex
  refine fn_ofA lk hcd Sc (fun vs H Q E h => ?_) (fun A outer s H vs Q E hr h => ?_)
  · obtain ⟨_, _, _, _, _, _, _, e, _⟩ := h; exact e
  · obtain ⟨a, HP, ds, vs', nn, pp, e0, e1, sm, dv, ob, tb, po⟩ := h
    subst e0
    exact ⟨_, body cdv A outer s H E hr, va0 a, stO N nn pp ds, HP, rel_startO (lenO_le Sc e1) sm dv ob tb, po_fin rfl rfl po⟩
theorem fn_2A {P : Program} {w : World} {K : PySem.W.Frag} {mg : Str → Option Value} {base : Heap} {x qual : Str} {st : Stmt} {f : Addr} {fd : FuncData} {N ps : List Str} {k : Nat} {f' : S → T} (F : Fun K x qual st f fd) (Sc : FnScope N ps (defScope st)) (hl : ps.length = 2)
    (body : ∀ (cdv : Value) (A : Around) (outer : List Env) (s : Shared) (H : Hp) (E : XK), RoomH k (A.deeper (envOfC qual (defScope st) s.heap.objs.size f cdv)) →
      DSs (cxA (L2.CX P w) P w K mg base N qual (defScope st) f cdv A outer s H E) (fun cls d _ H => E cls d H) (defBody st) f') :
    FnA P w K mg base (L2.CX P w) (k + 1) f fd ps (sp2 K (fun n p n' p' => (f' (st2 N n p n' p')).fin2)) := by
  obtain ⟨o1, od, kV, doc, pm, an, cdv, ct, osl, rfl, lk, hcd⟩ := F.ex
  refine fn_ofA lk hcd Sc (fun vs H Q E h => ?_) (fun A outer s H vs Q E hr h => ?_)
  · obtain ⟨_, _, _, _, _, _, _, e, _⟩ := h; rw [e, hl]; rfl
  · obtain ⟨a, b, HP, n, p, n', p', rfl, hab, sm, ob1, ob2, tb, po⟩ := h
    have hN : 2 ≤ N.length := by
      have := congrArg List.length Sc.pre
      rw [List.length_take] at this
      omega
    refine ⟨_, body cdv A outer s H E hr, va2 a b, st2 N n p n' p', HP, rel_start2 hN sm hab ob1 ob2 tb, ?_⟩
    dsimp only at po
    cases q : f' (st2 N n p n' p') with
    | ret d s' =>
      rw [q] at po
      unfold T.fin2 at po
      dsimp only at po
      cases e1 : getO 0 s' with
      | none => rw [e1] at po; exact po.elim
      | some u1 =>
        cases e2 : getO 1 s' with
        | none => rw [e1, e2] at po; exact po.elim
        | some u2 =>
          rw [e1, e2] at po
          exact fun v σ' H' HP' stp dv => po v H' HP' (stp.fg2 e1 e2) dv
    | next s' => rw [q] at po; exact po.elim
    | retO xs s' => rw [q] at po; exact po.elim
    | brk s' => rw [q] at po; exact po.elim
    | cnt s' => rw [q] at po; exact po.elim
    | exc x pl s' => rw [q] at po; exact po.elim
    | stuck => rw [q] at po; exact po.elim
theorem fn_getA {CX : CXT} {P : Program} {w : World} {K : PySem.W.Frag} {mg : Str → Option Value} {base : Heap} {k : Nat} {fa C : Addr} {name qual f : Str} {params : Arguments} {body : List Stmt} {scope : Scope} {dV kV doc pm cdv ct oc : Value} {an od : Option Addr}
    {osl : Array (Option Value)} {N : List Str} {p1 p2 p3 : Pos} (lk : K.lookup fa = some ⟨oc, od, .func (PySem.W.fnOf name qual params body scope dV kV doc pm an cdv ct), osl⟩) (hcd : PySem.W.codeIn K cdv qual = true) (S : FnScope N ["self"] scope)
    (hN : N[0]? = some ("self" : Str)) (hb : body = [.Return (some (.Attribute (.Name "self" p1) f p2)) p3]) (c : Cls K C) (n : NoAttr K C f) :
    FnA P w K mg base CX (k + 1) fa (PySem.W.fnOf name qual params body scope dV kV doc pm an cdv ct) ["self"] (getSp C f) := by
  refine fn_ofA lk hcd S (fun vs H Q E h => ?_) (fun A outer s H vs Q E hr h => ?_)
  · obtain ⟨a, dx, fs, v, e, _⟩ := h
    rw [e]
    rfl
  · obtain ⟨a, dx, fs, v, e, ea, l, q⟩ := h
    subst e
    subst hb
    refine ⟨_, pss_one (ps_ret (pe_fld (pe_var (i := 0) hN ((S.par "self" (List.Mem.head _)).elim (fun z => .inl z) (fun z => .inr (.inl z)))) rfl)), ?_⟩
    exact ⟨.ref a, rfl, a, C, dx, fs, v, rfl, ea, c, n, l, q⟩
def HasOA (P : Program) (w : World) (K : PySem.W.Frag) (mg : Str → Option Value) (base : Heap) (k : Nat) (x : Str) (ps : List Str) (m : FMo) : Prop := ∃ f fd, FnA P w K mg base (L2.CX P w) k f fd ps (spO K mg ps.length m) ∧ Meth K objC x f ∧ Binds K fd ps []
def Has2A (P : Program) (w : World) (K : PySem.W.Frag) (mg : Str → Option Value) (base : Heap) (k : Nat) (ps : List Str) (m : FM2) : Prop := ∃ f fd, FnA P w K mg base (L2.CX P w) k f fd ps (sp2 K m) ∧ CmpO K f ∧ Binds K fd ps []
def HasPA (P : Program) (w : World) (K : PySem.W.Frag) (mg : Str → Option Value) (base : Heap) (k : Nat) (x f : Str) : Prop := ∃ p g fd, PropOf K objC x p g ∧ FnA P w K mg base C8.CX0 k g fd ["self"] (getSp objC f) ∧ Binds K fd ["self"] []
section
variable {X : Cx} {W : WX} {CX : CXT} {k : Nat} {ps : List Str} {m : FM2} {C p g a dx : Addr} {fs : List (Str × V)} {f x y z : Str} {fd : FuncData} {sp : Sp} {E : XK} {e : Expr} {pos py pz : Pos} {ta : TE}
theorem pe_propA {pos : Pos} (he : PE X e ta) (c : Cls X.K C) (hp : PropOf X.K C f p g) (F : FnA X.prog X.w X.K X.mg X.base CX k g fd ps sp) (hr : RoomH (k + 1) X.A) (hb : Binds X.K fd ps []) (hx : Passes CX X.nox E)
    (hab : attributeBase e f X.env (eval e X.env) = eval e X.env) : PE X (.Attribute e f pos) (tProp C sp [] E ta) := by
  refine ⟨fun pins s σ H Q I h => ?_⟩
  refine attr_of hab (thn (he.run pins s σ H _ I h) fun u s1 ⟨x, H1, I1, rx, a, dx, fs, ex, ea, q⟩ => ?_)
  subst ex
  obtain rfl : u = Value.ref a := rx
  obtain ⟨mA, O, _, _, _, _⟩ := ins_get I1.hok ea
  obtain ⟨od, J, _⟩ := O.look
  obtain ⟨rest, hrec⟩ := hp.rec_
  have I2 := I1.tok (s1.toks + 1)
  have hc : (PySem.W.clsIn X.K C).isSome = true := by
    obtain ⟨cd, hc, _⟩ := PySem.W.any_some c.hd
    rw [hc]
    rfl
  refine PySem.W.get_bind I1.kIn J (PySem.W.plainGet_of (c.get f)).1 (PySem.W.findObj_data hc hp.at_ hp.get hp.tak) (PySem.W.plainGet_of (c.get f)).2 (wpAny_call (PySem.W.prop_get (s := { s1 with toks := s1.toks + 1 }) I1.kIn hrec ?_))
  refine codeAny_mono (fnRA_of F hb X.A.in1 X.stack { s1 with toks := s1.toks + 1 } H1 [.ref a] [.ref a] Q E (roomH_in1 hr) I2.env0.in1 (.cons rfl .nil) q) fun r s' hq => ?_
  cases r with
  | error er => exact False.elim (hx pins σ H1 { s1 with toks := s1.toks + 1 } er s' (I2.wish _) hq)
  | ok fl =>
    cases fl with
    | ret u =>
      obtain ⟨v, H', I3, rv, q3⟩ := I2.after hq
      show wpAny _ _ (handedOut u) _ _ _
      rw [PySem.W.handedOut_of (handed_of rv)]
      exact wpAny_pure ⟨v, H', I3, rv, q3⟩
    | next => exact False.elim hq
    | brk => exact False.elim hq
    | cont => exact False.elim hq
end
section
variable {X : Cx} {W : WX} {k : Nat} {x y f : Str} {py pos p : Pos} {e : Expr} {fe : S → R D}
theorem de_lenA {mm : FMo} (i : Nat) (G : HasOA X.prog X.w X.K X.mg X.base k "__len__" ["self"] mm) (hr : RoomH (k + 1) X.A) (hml : X.mg "len" = none) (hN : X.N[i]? = some y := by rfl) (hv : Vis X.env.scope y := by first | exact Or.inl rfl | exact Or.inr (Or.inl rfl) | exact Or.inr (Or.inr rfl))
    (hd : (y == ("__debug__" : Str)) = false := by decide) (hcd : (y == ("__classdict__" : Str)) = false := by decide) (hg : Gl X "len" := by rfl) (hbt : bootBuiltins "len" = some (.builtin "len") := by exact PySem.boot_len)
    (hst : starEach [.Name y py] X.env = (false, eval (.Name y py) X.env) :: starEach [] X.env := by rfl) (hpl : (backTo pos (starEach [] X.env)).any (·.1) = false := by rfl) :
    DE X W (.Call (.Name "len" p) [.Name y py] [] pos) (lenO i mm) := by
  obtain ⟨g, fd, F, hm, hb⟩ := G
  refine pe_imp (pe_callB (call_lenA (fnRA_of F hb) hr hm.at_ hm.fn) hg hml hbt (pa_cons (pv i hN hv hd hcd) pa_nil hst) (by decide) (by decide) hst hpl) fun σ H Q h => ?_
  obtain ⟨va, s, HP, rl, h⟩ := h
  unfold lenO at h
  split at h
  · rename_i n p q
    have q' := getO_some q
    obtain ⟨a, e1, ob⟩ := rl.ob.at_ i n p q'
    obtain ⟨e2, dx, v1, v2, e3, d1, d2⟩ := id ob
    refine ⟨.ref a, e1, a, dx, _, rfl, e3, a, HP, [], [], n, p, rfl, rfl, rl.sub, .nil, ob, rl.tab, ?_⟩
    split at h
    · rename_i k n' p' z
      rw [z]
      split at h
      · rename_i hk
        intro v H' HP' g dv
        cases dv
        exact ⟨k, rfl, hk.1, hk.2, h.fin_at (rl.calledO q' e1 g) (.int k)⟩
      · exact h.elim
    · exact h.elim
  · exact h.elim
theorem de_propA (i : Nat) (b : Bool) (oc : OC X.K) (G : HasPA X.prog X.w X.K X.mg X.base k x f) (hr : RoomH (k + 1) X.A) (hf : f = if b = true then obf2 else obf1 := by rfl) (hN : X.N[i]? = some y := by rfl) (hv : Vis X.env.scope y := by first | exact Or.inl rfl | exact Or.inr (Or.inl rfl) | exact Or.inr (Or.inr rfl))
    (hd : (y == ("__debug__" : Str)) = false := by decide) (hcd : (y == ("__classdict__" : Str)) = false := by decide) (hb : attributeBase (.Name y py) x X.env (eval (.Name y py) X.env) = eval (.Name y py) X.env := by rfl) :
    DE X W (.Attribute (.Name y py) x pos) (fldO i b) := by
  obtain ⟨q, g, fd, hp, F, bn⟩ := G
  refine pe_imp (pe_propA (E := C8.E0) (pv i hN hv hd hcd) oc.cls hp F hr bn (fun _ _ _ _ _ _ _ z => z) hb) fun σ H Q h => ?_
  obtain ⟨va, s, HP, rl, h⟩ := h
  unfold fldO at h
  split at h
  · rename_i n p q
    obtain ⟨a, h1, h2, dx, v1, v2, h3, d1, d2⟩ := rl.ob.at_ i n p (getO_some q)
    subst hf
    cases b with
    | false => exact ⟨.ref a, h1, a, dx, _, rfl, h3, a, dx, _, v1, rfl, h3, look1 _ _, h.fin rl d1⟩
    | true => exact ⟨.ref a, h1, a, dx, _, rfl, h3, a, dx, _, v2, rfl, h3, look2 _ _, h.fin rl d2⟩
  · exact h.elim
end
section
variable {X : Cx} {W : WX} {k : Nat} {y z : Str} {py pz pos : Pos} {ps : List Str} {m : FM2}
theorem de_eqA (i j : Nat) (G : Has2A X.prog X.w X.K X.mg X.base k ps m) (hr : RoomH k X.A) (hN : X.N[i]? = some y := by rfl) (hv : Vis X.env.scope y := by first | exact Or.inl rfl | exact Or.inr (Or.inl rfl) | exact Or.inr (Or.inr rfl)) (hd : (y == ("__debug__" : Str)) = false := by decide) (hcd : (y == ("__classdict__" : Str)) = false := by decide)
    (hN2 : X.N[j]? = some z := by rfl) (hv2 : Vis X.env.scope z := by first | exact Or.inl rfl | exact Or.inr (Or.inl rfl) | exact Or.inr (Or.inr rfl)) (hd2 : (z == ("__debug__" : Str)) = false := by decide) (hcd2 : (z == ("__classdict__" : Str)) = false := by decide) :
    DE X W (.Compare (.Name y py) [.Eq] [.Name z pz] pos) (cmp2 i j m id) := by
  obtain ⟨f, fd, F, c, hb⟩ := G
  refine pe_imp (pe_cmpR (op_eqA (fnRA_of F hb) hr c) (pv i hN hv hd hcd) (pv j hN2 hv2 hd2 hcd2) (nomark _)) fun σ H Q h => ?_
  obtain ⟨va, s, HP, rl, h⟩ := h
  obtain ⟨a, b, e1, e2, q⟩ := cmp2_po rl h
  exact ⟨.ref a, e1, .ref b, e2, q⟩
end
/-! ## try: .. except KeyError: return .. -/
theorem ds_tryKE {X : Cx} {W : WX} {body : List Stmt} {s0 : Stmt} {ss : List Stmt} {pos q1 q2 : Pos} {fB fS : S → T} (st : X.stack = X.env :: X.outer) (fr : X.env.frame = some X.env.locals) (hmk : X.mg "KeyError" = none) (hn : Names X "KeyError" (.type "KeyError"))
    (hx : PySem.W.exmOne X.K (.type "KeyError") (.type "KeyError") = some true)
    (hb : ∀ (W' : WX) (pn : List (Addr × Obj)) (xe : Value → Shared → Prop), Takes (X.tr pn xe) W' → PassesOwn (model X.prog X.w) X.A X.env xe → DSs (X.tr pn xe) W' body fB)
    (hsu : ∀ (a : Addr) (pn : List (Addr × Obj)), DSs (X.suite a pn) W0 (s0 :: ss) fS) :
    DS X W (.Try body [.ExceptHandler (some (.Name "KeyError" q1)) none (s0 :: ss) q2] [] [] pos) (fun s => match fB s with
      | .next s1 => .next s1
      | .exc x none s1 => if x = "KeyError" then (match fS s1 with
        | .exc _ _ _ => .stuck
        | t => t) else .stuck
      | _ => .stuck) := by
  let ts : ClT := fun _ _ _ => tDS X W0 fS
  refine ps_imp (ps_try_cl (tb := fun W' => tDS X W' fB) (l := [(.type "KeyError", some ts)]) st fr hb (.one hn (fun a ob cls d pn _ _ => hsu a _) .nil)) fun D σ H h => ?_
  obtain ⟨va, s, HP, rl, h⟩ := h
  dsimp only at h
  refine ⟨va, s, HP, rl, ?_⟩
  cases e : fB s with
  | next s1 => rw [e] at h; exact h
  | exc x pl s1 =>
    rw [e] at h
    cases pl with
    | some i => exact h.elim
    | none =>
      dsimp only at h
      by_cases hk : x = "KeyError"
      · subst hk
        rw [if_pos rfl] at h
        intro dd σ' H' HP' C stp hx' hC
        obtain rfl : C = .type "KeyError" := by
          rcases hC with z | ⟨_, _, z⟩
          · rw [hmk] at z; cases z
          · exact z
        refine .inl ⟨hx, fun a ha => ⟨va, s1, HP', stp.rel, ?_⟩⟩
        show PoS X W0 va s1 σ' HP' H' (fS s1) D
        cases e2 : fS s1 with
        | next s2 => rw [e2] at h; exact PoS.from (X := X) (W := W0) stp (show PoS X W0 va s σ HP H (T.next s2) D from h)
        | ret d s2 => rw [e2] at h; exact PoS.from (X := X) (W := W0) stp (show PoS X W0 va s σ HP H (T.ret d s2) D from h)
        | retO d s2 => rw [e2] at h; exact PoS.from (X := X) (W := W0) stp (show PoS X W0 va s σ HP H (T.retO d s2) D from h)
        | brk s2 => rw [e2] at h; exact PoS.from (X := X) (W := W0) stp (show PoS X W0 va s σ HP H (T.brk s2) D from h)
        | cnt s2 => rw [e2] at h; exact PoS.from (X := X) (W := W0) stp (show PoS X W0 va s σ HP H (T.cnt s2) D from h)
        | exc x pl s2 => rw [e2] at h; exact h.elim
        | stuck => rw [e2] at h; exact h.elim
      · rw [if_neg hk] at h; exact h.elim
  | ret d s1 => rw [e] at h; exact h.elim
  | retO d s1 => rw [e] at h; exact h.elim
  | brk s1 => rw [e] at h; exact h.elim
  | cnt s1 => rw [e] at h; exact h.elim
  | stuck => rw [e] at h; exact h.elim
end DL

namespace DL
open PySem PySem.Spec PyProof.Rows L2
/-! ## comparisons of objects as tests -/
section
variable {X : Cx} {W : WX} {k : Nat} {y z : Str} {p py pz pos : Pos} {ps : List Str} {m : FM2}
theorem dt_eqO (i j : Nat) (G : Has2 X.prog X.w X.K X.mg X.base k ps m) (hr : Room k X.A) (hN : X.N[i]? = some y := by rfl) (hv : Vis X.env.scope y := by first | exact Or.inl rfl | exact Or.inr (Or.inl rfl) | exact Or.inr (Or.inr rfl)) (hd : (y == ("__debug__" : Str)) = false := by decide) (hcd : (y == ("__classdict__" : Str)) = false := by decide)
    (hN2 : X.N[j]? = some z := by rfl) (hv2 : Vis X.env.scope z := by first | exact Or.inl rfl | exact Or.inr (Or.inl rfl) | exact Or.inr (Or.inr rfl)) (hd2 : (z == ("__debug__" : Str)) = false := by decide) (hcd2 : (z == ("__classdict__" : Str)) = false := by decide) :
    DT X W (.Compare (.Name y py) [.Eq] [.Name z pz] pos) (fun s => (cmp2 i j m id s).bind toB) := by
  obtain ⟨f, fd, F, c, hb⟩ := G
  refine pt_imp (pt_cmpR (op_eqO (fnR_of F hb) hr c) (pv i hN hv hd hcd) (pv j hN2 hv2 hd2 hcd2) (nomark _)) fun σ H Q h => ?_
  replace h := tB_of h
  obtain ⟨va, s, HP, rl, h⟩ := h
  obtain ⟨a, b, e1, e2, q⟩ := cmp2_po rl h
  exact ⟨.ref a, e1, .ref b, e2, q⟩
theorem dt_neO (i j : Nat) (G : Has2 X.prog X.w X.K X.mg X.base k ps m) (hr : Room (k + 1) X.A) (hN : X.N[i]? = some y := by rfl) (hv : Vis X.env.scope y := by first | exact Or.inl rfl | exact Or.inr (Or.inl rfl) | exact Or.inr (Or.inr rfl)) (hd : (y == ("__debug__" : Str)) = false := by decide) (hcd : (y == ("__classdict__" : Str)) = false := by decide)
    (hN2 : X.N[j]? = some z := by rfl) (hv2 : Vis X.env.scope z := by first | exact Or.inl rfl | exact Or.inr (Or.inl rfl) | exact Or.inr (Or.inr rfl)) (hd2 : (z == ("__debug__" : Str)) = false := by decide) (hcd2 : (z == ("__classdict__" : Str)) = false := by decide) :
    DT X W (.Compare (.Name y py) [.NotEq] [.Name z pz] pos) (fun s => (cmp2 i j m not s).bind toB) := by
  obtain ⟨f, fd, F, c, hb⟩ := G
  refine pt_imp (pt_cmpR (op_neO (fnR_of F hb) hr c) (pv i hN hv hd hcd) (pv j hN2 hv2 hd2 hcd2) (nomark _)) fun σ H Q h => ?_
  replace h := tB_of h
  obtain ⟨va, s, HP, rl, h⟩ := h
  obtain ⟨a, b, e1, e2, q⟩ := cmp2_po rl h
  exact ⟨.ref a, e1, .ref b, e2, q⟩
def neNew (i : Nat) (m2 : FM2) (f1 : S → Option (D × D × S)) (s : S) : R D := if (getO i s).isSome = true then (match f1 s with
      | some (n', p', s1) => (match getO i s1 with
        | some (n, p) => (match m2 n p n' p' with
          | .ok (.bl k) n1 p1 _ _ => .ok (.bl (!k)) (s1.put i (.obj n1 p1))
          | _ => .stuck)
        | none => .stuck)
      | none => .stuck) else .stuck
theorem dt_neNew {f1 : S → Option (D × D × S)} {e1 : Expr} {m2 : FM2} {ps2 : List Str} {k2 : Nat} (i : Nat) (G : Has2 X.prog X.w X.K X.mg X.base k2 ps2 m2) (hr : Room (k2 + 1) X.A) (h1 : PE X e1 (tNewO X f1)) (hN : X.N[i]? = some y := by rfl) (hv : Vis X.env.scope y := by first | exact Or.inl rfl | exact Or.inr (Or.inl rfl) | exact Or.inr (Or.inr rfl)) (hd : (y == ("__debug__" : Str)) = false := by decide) (hcd : (y == ("__classdict__" : Str)) = false := by decide) :
    DT X W (.Compare (.Name y py) [.NotEq] [e1] pos) (fun s => (neNew i m2 f1 s).bind toB) := by
  obtain ⟨f, fd, F, c, hb⟩ := G
  refine pt_imp (pt_cmpR (op_neO (fnR_of F hb) hr c) (pv i hN hv hd hcd) h1 (nomark _)) fun σ H Q h => ?_
  replace h := tB_of h
  unfold neNew at h
  obtain ⟨va, s, HP, rl, h⟩ := h
  dsimp only at h
  by_cases ho : (getO i s).isSome = true
  rotate_left
  · rw [if_neg ho] at h; exact h.elim
  rw [if_pos ho] at h
  obtain ⟨⟨n0, p0⟩, q0⟩ := Option.isSome_iff_exists.mp ho
  obtain ⟨a, e1, _⟩ := rl.ob.at_ i n0 p0 (getO_some q0)
  cases q1 : f1 s with
  | none => rw [q1] at h; exact h.elim
  | some u1 =>
    obtain ⟨n', p', s1⟩ := u1
    rw [q1] at h
    dsimp only at h
    cases q2 : getO i s1 with
    | none => rw [q2] at h; exact h.elim
    | some u2 =>
      obtain ⟨n, p⟩ := u2
      rw [q2] at h
      dsimp only at h
      cases q3 : m2 n p n' p' with
      | stuck => rw [q3] at h; exact h.elim
      | ok d n1 p1 n2 p2 =>
        rw [q3] at h
        cases d with
        | bl kk =>
          dsimp only at h
          refine ⟨.ref a, e1, va, s, HP, rl, ?_⟩
          rw [q1]
          intro b H1 HP1 b0 t1 ob no
          have q2' := getO_some q2
          obtain ⟨a', e2, o1⟩ := t1.rel.ob.at_ i n p q2'
          rw [e1] at e2
          injection e2 with e2; injection e2 with e2; injection e2 with e2
          subst e2
          have hab : a ≠ b := fun z => by subst z; exact no ⟨i, n, p, q2', e1⟩
          obtain ⟨_, dx, v1, v2, h3, _⟩ := id o1
          obtain ⟨_, dy, w1, w2, h4, _⟩ := id ob
          refine ⟨a, b, dx, _, dy, _, rfl, rfl, h3, h4, a, b, HP1, n, p, n', p', rfl, hab, t1.rel.sub, o1, ob, t1.rel.tab, ?_⟩
          rw [q3]
          intro v H' HP' fg dv
          cases dv
          exact ⟨kk, rfl, h.fin_at (t1.cmpF q2' e1 b0 no fg) (.bl (!kk))⟩
        | _ => exact h.elim
end
end DL

namespace FW
/-! ## least ways, in a table of rows -/
abbrev G := List (List (Option Int))
def gat (g : G) (i j : Nat) : Option Int := match g[i]? with
  | some r => match r[j]? with
    | some v => v
    | none => none
  | none => none
def gput (g : G) (i j : Nat) (w : Int) : G := match g[i]? with
  | some r => g.set i (r.set j (some w))
  | none => g
structure Sq (n : Nat) (g : G) : Prop where
  len : g.length = n
  row : ∀ (i : Nat) r, g[i]? = some r → r.length = n
theorem gat_put {n i j a b : Nat} {g : G} {w : Int} (h : Sq n g) (hi : i < n) (hj : j < n) : gat (gput g i j w) a b = if a = i ∧ b = j then some w else gat g a b := by
  have hi' : i < g.length := by rw [h.len]; exact hi
  have e := List.getElem?_eq_getElem hi'
  have hr := h.row i _ e
  have eg : gput g i j w = g.set i (g[i].set j (some w)) := by unfold gput; rw [e]
  rw [eg]
  unfold gat
  by_cases ha : a = i
  · subst ha
    rw [List.getElem?_set_self hi', e]
    dsimp only
    by_cases hb : b = j
    · subst hb
      rw [List.getElem?_set_self (by rw [hr]; exact hj), if_pos ⟨rfl, rfl⟩]
    · rw [List.getElem?_set_ne (Ne.symm hb), if_neg (fun z => hb z.2)]
  · rw [List.getElem?_set_ne (Ne.symm ha), if_neg (fun z => ha z.1)]
theorem Sq.put {n i j : Nat} {g : G} {w : Int} (h : Sq n g) : Sq n (gput g i j w) := by
  unfold gput
  split
  · rename_i r e
    refine ⟨by rw [List.length_set]; exact h.len, fun a s q => ?_⟩
    by_cases ha : a = i
    · subst ha
      have hl : a < g.length := by
        rcases List.getElem?_eq_some_iff.mp e with ⟨z, _⟩
        exact z
      rw [List.getElem?_set_self hl] at q
      cases q
      rw [List.length_set]
      exact h.row _ _ e
    · rw [List.getElem?_set_ne (Ne.symm ha)] at q
      exact h.row _ _ q
  · exact h
def low (g : G) (i j : Nat) (w : Int) : G := match gat g i j with
  | none => gput g i j w
  | some v => if w < v then gput g i j w else g
def rlx (m i k : Nat) (g : G) : G := match gat g i m with
  | none => g
  | some a => match gat g m k with
    | none => g
    | some b => low g i k (a + b)
def start (n : Nat) : G := (List.range n).map fun i => (List.range n).map fun j => if i = j then some 0 else none
theorem start_sq (n : Nat) : Sq n (start n) := by
  refine ⟨by simp [start], fun i r h => ?_⟩
  unfold start at h
  rw [List.getElem?_map] at h
  cases e : (List.range n)[i]? with
  | none => rw [e] at h; cases h
  | some k => rw [e] at h; cases h; simp
theorem gat_start (n i j : Nat) : gat (start n) i j = if i = j ∧ i < n then some 0 else none := by
  unfold gat start
  rw [List.getElem?_map]
  by_cases hi : i < n
  · rw [List.getElem?_range hi]
    dsimp only [Option.map_some]
    rw [List.getElem?_map]
    by_cases hj : j < n
    · rw [List.getElem?_range hj]
      dsimp only [Option.map_some]
      by_cases e : i = j
      · rw [if_pos e, if_pos ⟨e, hi⟩]
      · rw [if_neg e, if_neg (fun z => e z.1)]
    · rw [List.getElem?_eq_none_iff.mpr (by simp; omega)]
      rw [if_neg (by omega)]
      rfl
  · rw [List.getElem?_eq_none_iff.mpr (by simp; omega)]
    rw [if_neg (fun z => hi z.2)]
    rfl
theorem Sq.low {n i j : Nat} {g : G} {w : Int} (h : Sq n g) : Sq n (low g i j w) := by
  unfold FW.low
  split
  · exact h.put
  · split
    · exact h.put
    · exact h
theorem Sq.rlx {n m i k : Nat} {g : G} (h : Sq n g) : Sq n (rlx m i k g) := by
  unfold FW.rlx
  split
  · exact h
  · split
    · exact h
    · exact h.low
/-- entries only fall -/
def Le (g' g : G) : Prop := ∀ (i j : Nat) d, gat g i j = some d → ∃ d', gat g' i j = some d' ∧ d' ≤ d
theorem Le.refl (g : G) : Le g g := fun _ _ d h => ⟨d, h, Int.le_refl _⟩
theorem Le.trans {a b c : G} (h : Le a b) (h' : Le b c) : Le a c := fun i j d q => by
  obtain ⟨d1, q1, l1⟩ := h' i j d q
  obtain ⟨d2, q2, l2⟩ := h i j d1 q1
  exact ⟨d2, q2, Int.le_trans l2 l1⟩
theorem low_le {n i j : Nat} {g : G} {w : Int} (h : Sq n g) (hi : i < n) (hj : j < n) : Le (low g i j w) g := fun a b d q => by
  unfold low
  split
  · rename_i e
    refine ⟨d, ?_, Int.le_refl _⟩
    rw [gat_put h hi hj, if_neg]
    · exact q
    · rintro ⟨rfl, rfl⟩
      rw [e] at q; cases q
  · rename_i v e
    split
    · rename_i lt
      by_cases z : a = i ∧ b = j
      · refine ⟨w, by rw [gat_put h hi hj, if_pos z], ?_⟩
        rw [z.1, z.2, e] at q
        cases q
        omega
      · exact ⟨d, by rw [gat_put h hi hj, if_neg z]; exact q, Int.le_refl _⟩
    · exact ⟨d, q, Int.le_refl _⟩
theorem low_at {n i j : Nat} {g : G} {w : Int} (h : Sq n g) (hi : i < n) (hj : j < n) : ∃ d, gat (low g i j w) i j = some d ∧ d ≤ w := by
  unfold low
  split
  · exact ⟨w, by rw [gat_put h hi hj, if_pos ⟨rfl, rfl⟩], Int.le_refl _⟩
  · rename_i v e
    split
    · exact ⟨w, by rw [gat_put h hi hj, if_pos ⟨rfl, rfl⟩], Int.le_refl _⟩
    · exact ⟨v, e, by omega⟩
theorem rlx_le {n m i k : Nat} {g : G} (h : Sq n g) (hi : i < n) (hk : k < n) : Le (rlx m i k g) g := by
  unfold rlx
  split
  · exact Le.refl _
  · split
    · exact Le.refl _
    · exact low_le h hi hk
/-- what times keep to a table -/
def Snd (t : Nat → Int) (g : G) : Prop := ∀ (i j : Nat) d, gat g i j = some d → t j - t i ≤ d
theorem low_snd {n i j : Nat} {g : G} {w : Int} {t : Nat → Int} (h : Sq n g) (hi : i < n) (hj : j < n) (s : Snd t g) (hw : t j - t i ≤ w) : Snd t (low g i j w) := fun a b d q => by
  have aux : gat (gput g i j w) a b = some d → t b - t a ≤ d := fun y => by
    rw [gat_put h hi hj] at y
    split at y
    · rename_i z
      rw [z.1, z.2]
      cases y; exact hw
    · exact s a b d y
  unfold low at q
  split at q
  · exact aux q
  · split at q
    · exact aux q
    · exact s a b d q
theorem rlx_snd {n m i k : Nat} {g : G} {t : Nat → Int} (h : Sq n g) (hi : i < n) (hk : k < n) (s : Snd t g) : Snd t (rlx m i k g) := by
  unfold rlx
  split
  · exact s
  · rename_i a ea
    split
    · exact s
    · rename_i b eb
      refine low_snd h hi hk s ?_
      have := s _ _ _ ea
      have := s _ _ _ eb
      omega
/-! ## the passes -/
def rowF (m i n : Nat) (g : G) : G := (List.range n).foldl (fun g k => rlx m i k g) g
def midF (m n a : Nat) (g : G) : G := (List.range a).foldl (fun g i => rowF m i n g) g
def allF (n b : Nat) (g : G) : G := (List.range b).foldl (fun g m => midF m n n g) g
theorem rowF_succ (m i k : Nat) (g : G) : rowF m i (k + 1) g = rlx m i k (rowF m i k g) := by simp [rowF, List.range_succ]
theorem midF_succ (m n a : Nat) (g : G) : midF m n (a + 1) g = rowF m a n (midF m n a g) := by simp [midF, List.range_succ]
theorem allF_succ (n b : Nat) (g : G) : allF n (b + 1) g = midF b n n (allF n b g) := by simp [allF, List.range_succ]
/-- what holds of each step holds of all -/
structure Keeps (n : Nat) (P : G → Prop) : Prop where
  step : ∀ m i k g, m < n → i < n → k < n → Sq n g → P g → P (rlx m i k g)
theorem rowF_keep {n : Nat} {P : G → Prop} (h : Keeps n P) {m i : Nat} (hm : m < n) (hi : i < n) : ∀ (k : Nat) (g : G), k ≤ n → Sq n g → P g → Sq n (rowF m i k g) ∧ P (rowF m i k g)
  | 0, g, _, s, p => ⟨s, p⟩
  | k + 1, g, hk, s, p => by
    rw [rowF_succ]
    obtain ⟨s1, p1⟩ := rowF_keep h hm hi k g (by omega) s p
    exact ⟨s1.rlx, h.step m i k _ hm hi (by omega) s1 p1⟩
theorem midF_keep {n : Nat} {P : G → Prop} (h : Keeps n P) {m : Nat} (hm : m < n) : ∀ (a : Nat) (g : G), a ≤ n → Sq n g → P g → Sq n (midF m n a g) ∧ P (midF m n a g)
  | 0, g, _, s, p => ⟨s, p⟩
  | a + 1, g, ha, s, p => by
    rw [midF_succ]
    obtain ⟨s1, p1⟩ := midF_keep h hm a g (by omega) s p
    exact rowF_keep h hm (by omega) n _ (Nat.le_refl _) s1 p1
theorem allF_keep {n : Nat} {P : G → Prop} (h : Keeps n P) : ∀ (b : Nat) (g : G), b ≤ n → Sq n g → P g → Sq n (allF n b g) ∧ P (allF n b g)
  | 0, g, _, s, p => ⟨s, p⟩
  | b + 1, g, hb, s, p => by
    rw [allF_succ]
    obtain ⟨s1, p1⟩ := allF_keep h b g (by omega) s p
    exact midF_keep h (by omega) n _ (Nat.le_refl _) s1 p1
theorem keeps_le {n : Nat} (g0 : G) : Keeps n (fun g => Le g g0) := ⟨fun _ _ _ _ _ hi hk s p => (rlx_le s hi hk).trans p⟩
theorem keeps_snd {n : Nat} (t : Nat → Int) : Keeps n (Snd t) := ⟨fun _ _ _ _ _ hi hk s p => rlx_snd s hi hk p⟩
/-- a pass by way of m, all at once -/
def via (g : G) (m i k : Nat) : Option Int := match gat g i m with
  | none => gat g i k
  | some a => match gat g m k with
    | none => gat g i k
    | some b => match gat g i k with
      | none => some (a + b)
      | some v => if a + b < v then some (a + b) else some v
theorem via_row {g : G} {m : Nat} (h : gat g m m = some 0) (k : Nat) : via g m m k = gat g m k := by
  unfold via
  rw [h]
  dsimp only
  cases e : gat g m k with
  | none => rfl
  | some b => dsimp only; rw [if_neg (by omega)]
theorem via_col {g : G} {m : Nat} (h : gat g m m = some 0) (i : Nat) : via g m i m = gat g i m := by
  unfold via
  rw [h]
  cases e : gat g i m with
  | none => rfl
  | some b => dsimp only; rw [if_neg (by omega)]
/-- the pass over the rows ahead of a and the places ahead of b in row a -/
def Ph (n : Nat) (g0 : G) (m a b : Nat) (g : G) : Prop := ∀ i k : Nat, gat g i k = if (i < a ∧ k < n) ∨ (i = a ∧ k < b) then via g0 m i k else gat g0 i k
theorem gat_low {n i k : Nat} {g : G} {w : Int} (h : Sq n g) (hi : i < n) (hk : k < n) (x y : Nat) : gat (low g i k w) x y = if x = i ∧ y = k then (match gat g i k with
    | none => some w
    | some v => if w < v then some w else some v) else gat g x y := by
  unfold low
  cases e : gat g i k with
  | none => dsimp only; rw [gat_put h hi hk]
  | some v =>
    dsimp only
    by_cases q : w < v
    · rw [if_pos q, if_pos q, gat_put h hi hk]
    · rw [if_neg q, if_neg q]
      split
      · rename_i z
        obtain ⟨rfl, rfl⟩ := z
        exact e
      · rfl
theorem rlx_at {n m i k : Nat} {g : G} (h : Sq n g) (hi : i < n) (hk : k < n) (x y : Nat) : gat (rlx m i k g) x y = if x = i ∧ y = k then via g m i k else gat g x y := by
  unfold rlx via
  cases ea : gat g i m with
  | none =>
    dsimp only
    split
    · rename_i z; rw [z.1, z.2]
    · rfl
  | some a =>
    cases eb : gat g m k with
    | none =>
      dsimp only
      split
      · rename_i z; rw [z.1, z.2]
      · rfl
    | some b =>
      dsimp only
      rw [gat_low h hi hk]
theorem Ph.step {n m a b : Nat} {g0 g : G} (h0 : gat g0 m m = some 0) (ha : a < n) (hb : b < n) (s : Sq n g) (p : Ph n g0 m a b g) : Ph n g0 m a (b + 1) (rlx m a b g) := by
  have col : ∀ i, gat g i m = gat g0 i m := fun i => by
    rw [p i m]
    split
    · exact via_col h0 i
    · rfl
  have row : ∀ k, gat g m k = gat g0 m k := fun k => by
    rw [p m k]
    split
    · exact via_row h0 k
    · rfl
  have ab : gat g a b = gat g0 a b := by
    rw [p a b, if_neg (by omega)]
  intro i k
  rw [rlx_at s ha hb]
  by_cases z : i = a ∧ k = b
  · obtain ⟨rfl, rfl⟩ := z
    rw [if_pos ⟨rfl, rfl⟩, if_pos (by omega)]
    unfold via
    rw [col, row, ab]
  · rw [if_neg z, p i k]
    by_cases y : (i < a ∧ k < n) ∨ (i = a ∧ k < b)
    · rw [if_pos y, if_pos (by omega)]
    · rw [if_neg y, if_neg (by omega)]
theorem ph_row {n m a : Nat} {g0 g : G} (h0 : gat g0 m m = some 0) (ha : a < n) : ∀ (b : Nat), b ≤ n → Sq n g → Ph n g0 m a 0 g → Sq n (rowF m a b g) ∧ Ph n g0 m a b (rowF m a b g)
  | 0, _, s, p => ⟨s, p⟩
  | b + 1, hb, s, p => by
    rw [rowF_succ]
    obtain ⟨s1, p1⟩ := ph_row h0 ha b (by omega) s p
    exact ⟨s1.rlx, p1.step h0 ha (by omega) s1⟩
theorem ph_mid {n m : Nat} {g : G} (h0 : gat g m m = some 0) : ∀ (a : Nat), a ≤ n → Sq n g → Sq n (midF m n a g) ∧ Ph n g m a 0 (midF m n a g)
  | 0, _, s => ⟨s, fun i k => by rw [if_neg (by omega)]; rfl⟩
  | a + 1, ha, s => by
    rw [midF_succ]
    obtain ⟨s1, p1⟩ := ph_mid h0 a (by omega) s
    obtain ⟨s2, p2⟩ := ph_row h0 (by omega) n (Nat.le_refl _) s1 p1
    refine ⟨s2, fun i k => ?_⟩
    rw [p2 i k]
    by_cases y : (i < a ∧ k < n) ∨ (i = a ∧ k < n)
    · rw [if_pos y, if_pos (by omega)]
    · rw [if_neg y, if_neg (by omega)]
theorem gat_out {n : Nat} {g : G} (s : Sq n g) {i k : Nat} (h : n ≤ i ∨ n ≤ k) : gat g i k = none := by
  unfold gat
  cases e : g[i]? with
  | none => rfl
  | some r =>
    dsimp only
    have hr := s.row i r e
    have hi : i < g.length := by
      rcases List.getElem?_eq_some_iff.mp e with ⟨z, _⟩
      exact z
    rw [s.len] at hi
    rw [List.getElem?_eq_none_iff.mpr (by omega)]
theorem mid_at {n m : Nat} {g : G} (h0 : gat g m m = some 0) (s : Sq n g) (i k : Nat) : gat (midF m n n g) i k = via g m i k := by
  obtain ⟨s1, p1⟩ := ph_mid h0 n (Nat.le_refl _) s
  rw [p1 i k]
  by_cases y : i < n ∧ k < n
  · rw [if_pos (.inl y)]
  · rw [if_neg (by omega)]
    have o : n ≤ i ∨ n ≤ k := by omega
    unfold via
    rw [gat_out s o]
    rcases o with o | o
    · rw [gat_out s (.inl o)]
    · cases gat g i m with
      | none => rfl
      | some a => dsimp only; rw [gat_out s (.inr o)]
/-! ## the law of triangles -/
def Tri (m : Nat) (g : G) : Prop := ∀ j, j < m → ∀ (i k : Nat) a b, gat g i j = some a → gat g j k = some b → ∃ c, gat g i k = some c ∧ c ≤ a + b
theorem via_le {g : G} {m i k : Nat} {a b : Int} (h1 : gat g i m = some a) (h2 : gat g m k = some b) : ∃ c, via g m i k = some c ∧ c ≤ a + b := by
  unfold via
  rw [h1, h2]
  dsimp only
  cases e : gat g i k with
  | none => exact ⟨_, rfl, Int.le_refl _⟩
  | some v =>
    dsimp only
    split
    · exact ⟨_, rfl, Int.le_refl _⟩
    · exact ⟨_, rfl, by omega⟩
theorem via_old {g : G} {m i k : Nat} {d : Int} (h : gat g i k = some d) : ∃ c, via g m i k = some c ∧ c ≤ d := by
  unfold via
  rw [h]
  cases gat g i m with
  | none => exact ⟨_, rfl, Int.le_refl _⟩
  | some a =>
    cases gat g m k with
    | none => exact ⟨_, rfl, Int.le_refl _⟩
    | some b =>
      dsimp only
      split
      · exact ⟨_, rfl, by omega⟩
      · exact ⟨_, rfl, Int.le_refl _⟩
theorem via_cases {g : G} {m i k : Nat} {d : Int} (h : via g m i k = some d) : gat g i k = some d ∨ ∃ a b, gat g i m = some a ∧ gat g m k = some b ∧ d = a + b := by
  unfold via at h
  cases e1 : gat g i m with
  | none => rw [e1] at h; exact .inl h
  | some a =>
    cases e2 : gat g m k with
    | none => rw [e1, e2] at h; exact .inl h
    | some b =>
      rw [e1, e2] at h
      dsimp only at h
      cases e3 : gat g i k with
      | none => rw [e3] at h; exact .inr ⟨a, b, rfl, rfl, by cases h; rfl⟩
      | some v =>
        rw [e3] at h
        dsimp only at h
        split at h
        · exact .inr ⟨a, b, rfl, rfl, by cases h; rfl⟩
        · exact .inl h
theorem tri_next {m : Nat} {g g' : G} (h0 : gat g m m = some 0) (t : Tri m g) (e : ∀ i k, gat g' i k = via g m i k) : Tri (m + 1) g' := by
  intro j hj i k a b ha hb
  rw [e] at ha hb ⊢
  by_cases hm : j = m
  · subst hm
    rw [via_col h0] at ha
    rw [via_row h0] at hb
    exact via_le ha hb
  · have hj' : j < m := by omega
    rcases via_cases ha with ha | ⟨a1, a2, p1, p2, rfl⟩
    · rcases via_cases hb with hb | ⟨b1, b2, q1, q2, rfl⟩
      · obtain ⟨c, hc, l⟩ := t j hj' i k a b ha hb
        obtain ⟨c', hc', l'⟩ := via_old (m := m) hc
        exact ⟨c', hc', by omega⟩
      · obtain ⟨c, hc, l⟩ := t j hj' i m a b1 ha q1
        obtain ⟨c', hc', l'⟩ := via_le hc q2
        exact ⟨c', hc', by omega⟩
    · rcases via_cases hb with hb | ⟨b1, b2, q1, q2, rfl⟩
      · obtain ⟨c, hc, l⟩ := t j hj' m k a2 b p2 hb
        obtain ⟨c', hc', l'⟩ := via_le p1 hc
        exact ⟨c', hc', by omega⟩
      · obtain ⟨c, hc, l⟩ := t j hj' m m a2 b1 p2 q1
        rw [h0] at hc
        cases hc
        obtain ⟨c', hc', l'⟩ := via_le p1 q2
        exact ⟨c', hc', by omega⟩
def Neg (n : Nat) (g : G) : Prop := ∃ i, i < n ∧ ∃ d, gat g i i = some d ∧ d < 0
def Zer (n : Nat) (g : G) : Prop := ∀ i, i < n → gat g i i = some 0
theorem Neg.le {n : Nat} {g g' : G} (h : Neg n g) (l : Le g' g) : Neg n g' := by
  obtain ⟨i, hi, d, e, hd⟩ := h
  obtain ⟨d', e', l'⟩ := l i i d e
  exact ⟨i, hi, d', e', by omega⟩
theorem neg_or {n : Nat} {g g' : G} (h : Zer n g) (l : Le g' g) : Neg n g' ∨ Zer n g' := by
  by_cases q : Neg n g'
  · exact .inl q
  · refine .inr fun i hi => ?_
    obtain ⟨d, e, hd⟩ := l i i 0 (h i hi)
    have : ¬ d < 0 := fun z => q ⟨i, hi, d, e, z⟩
    rw [e, show d = 0 by omega]
theorem all_tri {n : Nat} {g : G} (s : Sq n g) (z : Zer n g) : ∀ b, b ≤ n → Sq n (allF n b g) ∧ (Neg n (allF n b g) ∨ (Zer n (allF n b g) ∧ Tri b (allF n b g)))
  | 0, _ => ⟨s, .inr ⟨z, fun j hj => absurd hj (by omega)⟩⟩
  | b + 1, hb => by
    obtain ⟨s1, h⟩ := all_tri s z b (by omega)
    rw [allF_succ]
    have l := midF_keep (keeps_le (n := n) (allF n b g)) (show b < n by omega) n _ (Nat.le_refl _) s1 (Le.refl _)
    refine ⟨l.1, ?_⟩
    rcases h with h | ⟨h, t⟩
    · exact .inl (h.le l.2)
    · rcases neg_or h l.2 with q | q
      · exact .inl q
      · exact .inr ⟨q, tri_next (h b (by omega)) t (mid_at (h b (by omega)) s1)⟩
/-! ## all bounds -/
abbrev Bd := Nat × Nat × Int
def Fit (n : Nat) (bs : List Bd) : Prop := ∀ b ∈ bs, b.1 < n ∧ b.2.1 < n
def Sat (t : Nat → Int) (bs : List Bd) : Prop := ∀ b ∈ bs, t b.2.1 - t b.1 ≤ b.2.2
def lay (bs : List Bd) (g : G) : G := bs.foldl (fun g b => low g b.1 b.2.1 b.2.2) g
theorem lay_sq {n : Nat} : ∀ (bs : List Bd) (g : G), Sq n g → Sq n (lay bs g)
  | [], _, s => s
  | b :: bs, g, s => lay_sq bs _ s.low
theorem lay_le {n : Nat} : ∀ (bs : List Bd) (g : G), Fit n bs → Sq n g → Le (lay bs g) g
  | [], g, _, _ => Le.refl g
  | b :: bs, g, f, s => (lay_le bs _ (fun x hx => f x (List.mem_cons_of_mem _ hx)) s.low).trans (low_le s (f b List.mem_cons_self).1 (f b List.mem_cons_self).2)
theorem lay_snd {n : Nat} {t : Nat → Int} : ∀ (bs : List Bd) (g : G), Fit n bs → Sq n g → Sat t bs → Snd t g → Snd t (lay bs g)
  | [], _, _, _, _, h => h
  | b :: bs, g, f, s, q, h => lay_snd bs _ (fun x hx => f x (List.mem_cons_of_mem _ hx)) s.low (fun x hx => q x (List.mem_cons_of_mem _ hx)) (low_snd s (f b List.mem_cons_self).1 (f b List.mem_cons_self).2 h (q b List.mem_cons_self))
theorem lay_at {n : Nat} : ∀ (bs : List Bd) (g : G), Fit n bs → Sq n g → ∀ b ∈ bs, ∃ d, gat (lay bs g) b.1 b.2.1 = some d ∧ d ≤ b.2.2
  | b :: bs, g, f, s, x, hx => by
    have f' : Fit n bs := fun x hx => f x (List.mem_cons_of_mem _ hx)
    rcases List.mem_cons.mp hx with rfl | hx
    · obtain ⟨d, e, l⟩ := low_at (w := x.2.2) s (f x List.mem_cons_self).1 (f x List.mem_cons_self).2
      obtain ⟨d', e', l'⟩ := lay_le bs _ f' s.low _ _ _ e
      exact ⟨d', e', by omega⟩
    · exact lay_at bs _ f' s.low x hx
def tab (n : Nat) (bs : List Bd) : G := allF n n (lay bs (start n))
def negB (n : Nat) (g : G) : Bool := (List.range n).any fun i => match gat g i i with
  | some d => decide (d < 0)
  | none => false
def closed (n : Nat) (bs : List Bd) : Option G := if negB n (tab n bs) = true then none else some (tab n bs)
theorem negB_iff {n : Nat} {g : G} : negB n g = true ↔ Neg n g := by
  unfold negB Neg
  rw [List.any_eq_true]
  constructor
  · rintro ⟨i, hi, h⟩
    refine ⟨i, List.mem_range.mp hi, ?_⟩
    cases e : gat g i i with
    | none => rw [e] at h; cases h
    | some d => rw [e] at h; exact ⟨d, rfl, by simpa using h⟩
  · rintro ⟨i, hi, d, e, h⟩
    exact ⟨i, List.mem_range.mpr hi, by rw [e]; simpa using h⟩
theorem start_snd (t : Nat → Int) (n : Nat) : Snd t (start n) := fun i j d q => by
  rw [gat_start] at q
  split at q
  · rename_i z; cases q; rw [z.1]; omega
  · cases q
theorem start_zer (n : Nat) : Zer n (start n) := fun i hi => by rw [gat_start, if_pos ⟨rfl, hi⟩]
theorem tab_snd {n : Nat} {bs : List Bd} {t : Nat → Int} (f : Fit n bs) (h : Sat t bs) : Snd t (tab n bs) :=
  (allF_keep (keeps_snd (n := n) t) n _ (Nat.le_refl _) (lay_sq bs _ (start_sq n)) (lay_snd bs _ f (start_sq n) h (start_snd t n))).2
/-- what a table of the least ways is worth -/
structure Way (n : Nat) (bs : List Bd) (g : G) : Prop where
  sq : Sq n g
  snd : ∀ t, Sat t bs → Snd t g
  bnd : ∀ b ∈ bs, ∃ d, gat g b.1 b.2.1 = some d ∧ d ≤ b.2.2
  tri : ∀ (i j k : Nat) a b, gat g i j = some a → gat g j k = some b → ∃ c, gat g i k = some c ∧ c ≤ a + b
  zer : Zer n g
theorem closed_some {n : Nat} {bs : List Bd} {g : G} (f : Fit n bs) (h : closed n bs = some g) : Way n bs g := by
  unfold closed at h
  split at h
  · cases h
  · rename_i q
    cases h
    have s1 := lay_sq bs _ (start_sq n)
    have l1 := lay_le bs _ f (start_sq n)
    have l2 := allF_keep (keeps_le (n := n) (lay bs (start n))) n _ (Nat.le_refl _) s1 (Le.refl _)
    have q' : ¬ Neg n (tab n bs) := fun z => q (negB_iff.mpr z)
    rcases neg_or (start_zer n) l1 with z | z
    · exact absurd (z.le l2.2) q'
    · obtain ⟨s2, h | ⟨h, t⟩⟩ := all_tri s1 z n (Nat.le_refl _)
      · exact absurd h q'
      · refine ⟨s2, fun t ht => tab_snd f ht, fun b hb => ?_, fun i j k a b ha hb => ?_, h⟩
        · obtain ⟨d, e, l⟩ := lay_at bs _ f (start_sq n) b hb
          obtain ⟨d', e', l'⟩ := l2.2 _ _ _ e
          exact ⟨d', e', by omega⟩
        · by_cases hj : j < n
          · exact t j hj i k a b ha hb
          · rw [show gat (tab n bs) i j = none from gat_out s2 (.inr (by omega))] at ha; cases ha
theorem closed_none {n : Nat} {bs : List Bd} (f : Fit n bs) (h : closed n bs = none) (t : Nat → Int) : ¬ Sat t bs := fun st => by
  unfold closed at h
  split at h
  · rename_i q
    obtain ⟨i, hi, d, e, hd⟩ := negB_iff.mp q
    have := tab_snd f st i i d e
    omega
  · cases h
end FW

namespace FW
/-! ## tellings, their bounds, and the truths -/
inductive Tel where
  | span (run a b : Nat) (lo hi : Int)
  | gap (run other mark : Nat) (lo hi : Int)
  | best (a b : Nat) (time : Int)
deriving DecidableEq
def Tel.isBest : Tel → Bool
  | .best _ _ _ => true
  | _ => false
def Tel.Ok (r p : Nat) : Tel → Prop
  | .span run a b lo hi => run < r ∧ a < b ∧ b ≤ p ∧ 0 ≤ lo ∧ lo ≤ hi ∧ hi ≤ 1000000
  | .gap run other mark lo hi => run < r ∧ other < r ∧ run ≠ other ∧ 1 ≤ mark ∧ mark ≤ p ∧ -1000000 ≤ lo ∧ lo ≤ hi ∧ hi ≤ 1000000
  | .best a b time => a < b ∧ b ≤ p ∧ 1 ≤ time ∧ time ≤ 1000000
def pt (p run mark : Nat) : Nat := if mark = 0 then 0 else run * p + mark
def many (r p : Nat) : Nat := r * p + 1
def plainB (r p : Nat) : List Bd := (List.range r).flatMap fun run => (List.range p).map fun mark => (pt p run (mark + 1), pt p run mark, -1)
def spanB (p run a b : Nat) (lo hi : Option Int) : List Bd :=
  (match lo with | none => [] | some l => [(pt p run b, pt p run a, 0 - l)]) ++ (match hi with | none => [] | some h => [(pt p run a, pt p run b, h)])
def gapB (p run other mark : Nat) (lo hi : Option Int) : List Bd :=
  (match lo with | none => [] | some l => [(pt p run mark, pt p other mark, 0 - l)]) ++ (match hi with | none => [] | some h => [(pt p other mark, pt p run mark, h)])
def toldB (r p : Nat) (holder : Option Nat) : Tel → List Bd
  | .span run a b lo hi => spanB p run a b (some lo) (some hi)
  | .gap run other mark lo hi => gapB p run other mark (some lo) (some hi)
  | .best a b time => (List.range r).flatMap fun run => spanB p run a b (some time) (if some run = holder then some time else none)
def holdStep (r : Nat) (found : List (List Nat)) (tel : Tel) : List (List Nat) := if tel.isBest then found.flatMap (fun row => (List.range r).map fun run => row ++ [run]) else found
def holders (r : Nat) (ts : List Tel) : List (List Nat) := ts.foldl (holdStep r) [[]]
def bdStep (r p : Nat) (s : List Bd × List Nat) (tel : Tel) : List Bd × List Nat :=
  if tel.isBest then (s.1 ++ toldB r p s.2.head? tel, s.2.tail) else (s.1 ++ toldB r p none tel, s.2)
def boundsOf (r p : Nat) (ts : List Tel) (h : List Nat) : List Bd := (ts.foldl (bdStep r p) (plainB r p, h)).1
def tablesOf (r p : Nat) (ts : List Tel) (more : List Bd) : List G := (holders r ts).filterMap fun h => closed (many r p) (boundsOf r p ts h ++ more)
def gti (g : G) (i j : Nat) : Int := (gat g i j).getD 0
def momE (p : Nat) (g : G) (run : Nat) : List Int := 0 :: (List.range p).map fun m => 0 - gti g (pt p run (m + 1)) 0
def earliest (r p : Nat) (g : G) : List (List Int) := (List.range r).map fun run => (List.range p).map fun at' => (momE p g run).getD (at' + 1) 0 - (momE p g run).getD at' 0
def firstTruth (r p : Nat) (ts : List Tel) (more : List Bd) : Option (List (List Int)) := match tablesOf r p ts more with
  | [] => none
  | g :: _ => some (earliest r p g)
/-! ### what it means -/
structure Shape (r p : Nat) (T : List (List Int)) : Prop where
  len : T.length = r
  row : ∀ x ∈ T, x.length = p ∧ ∀ y ∈ x, 1 ≤ y
def mom (T : List (List Int)) (run mark : Nat) : Int := ((T.getD run []).take mark).sum
def took (T : List (List Int)) (run a b : Nat) : Int := mom T run b - mom T run a
def So (T : List (List Int)) : Tel → Prop
  | .span run a b lo hi => lo ≤ took T run a b ∧ took T run a b ≤ hi
  | .gap run other mark lo hi => lo ≤ mom T run mark - mom T other mark ∧ mom T run mark - mom T other mark ≤ hi
  | .best a b time => (∀ run, run < T.length → time ≤ took T run a b) ∧ ∃ run, run < T.length ∧ took T run a b ≤ time
instance (T : List (List Int)) (x : Tel) : Decidable (So T x) := by
  cases x <;> unfold So <;> exact inferInstance
/-- with the run that holds a best -/
def SoH (T : List (List Int)) (h : Option Nat) : Tel → Prop
  | .span run a b lo hi => lo ≤ took T run a b ∧ took T run a b ≤ hi
  | .gap run other mark lo hi => lo ≤ mom T run mark - mom T other mark ∧ mom T run mark - mom T other mark ≤ hi
  | .best a b time => (∀ run, run < T.length → time ≤ took T run a b) ∧ ∀ run, run < T.length → some run = h → took T run a b ≤ time
def tm (p : Nat) (T : List (List Int)) (x : Nat) : Int := if x = 0 then 0 else mom T ((x - 1) / p) ((x - 1) % p + 1)
theorem tm_pt {p run mark : Nat} {T : List (List Int)} (h : mark ≤ p) : tm p T (pt p run mark) = mom T run mark := by
  unfold pt
  split
  · rename_i z; subst z; simp [tm, mom]
  · rename_i z
    unfold tm
    rw [if_neg (by omega)]
    have e : run * p + mark - 1 = (mark - 1) + p * run := by rw [Nat.mul_comm]; omega
    rw [e, Nat.add_mul_div_left _ _ (by omega), Nat.add_mul_mod_self_left, Nat.div_eq_of_lt (by omega), Nat.mod_eq_of_lt (by omega), Nat.zero_add]
    congr 1
    omega
theorem pt_lt {r p run mark : Nat} (h : run < r) (hm : mark ≤ p) : pt p run mark < many r p := by
  unfold pt many
  split
  · omega
  · have : (run + 1) * p ≤ r * p := Nat.mul_le_mul_right p h
    rw [Nat.add_mul, Nat.one_mul] at this
    omega
theorem sat_app {t : Nat → Int} {a b : List Bd} : Sat t (a ++ b) ↔ Sat t a ∧ Sat t b := by
  unfold Sat
  constructor
  · intro h
    exact ⟨fun x hx => h x (List.mem_append_left _ hx), fun x hx => h x (List.mem_append_right _ hx)⟩
  · rintro ⟨h1, h2⟩ x hx
    rcases List.mem_append.mp hx with z | z
    · exact h1 x z
    · exact h2 x z
theorem sat_nil {t : Nat → Int} : Sat t [] := fun x hx => absurd hx List.not_mem_nil
theorem sat_one {t : Nat → Int} {x : Bd} : Sat t [x] ↔ t x.2.1 - t x.1 ≤ x.2.2 := by
  unfold Sat
  constructor
  · intro h; exact h x List.mem_cons_self
  · intro h y hy
    rw [List.mem_singleton] at hy
    subst hy; exact h
theorem sat_flat {t : Nat → Int} {α : Type} {l : List α} {f : α → List Bd} : Sat t (l.flatMap f) ↔ ∀ x ∈ l, Sat t (f x) := by
  unfold Sat
  constructor
  · intro h x hx b hb
    exact h b (List.mem_flatMap.mpr ⟨x, hx, hb⟩)
  · intro h b hb
    obtain ⟨x, hx, hb⟩ := List.mem_flatMap.mp hb
    exact h x hx b hb
def lowO (lo : Option Int) (x : Int) : Prop := match lo with | none => True | some l => l ≤ x
def highO (hi : Option Int) (x : Int) : Prop := match hi with | none => True | some h => x ≤ h
theorem sat_span {p run a b : Nat} {lo hi : Option Int} {T : List (List Int)} (ha : a ≤ p) (hb : b ≤ p) : Sat (tm p T) (spanB p run a b lo hi) ↔ lowO lo (took T run a b) ∧ highO hi (took T run a b) := by
  unfold spanB
  rw [sat_app]
  unfold lowO highO took
  cases lo <;> cases hi <;> simp only [sat_one, tm_pt ha, tm_pt hb] <;> simp [sat_nil] <;> omega
theorem sat_gap {p run other mark : Nat} {lo hi : Option Int} {T : List (List Int)} (hm : mark ≤ p) : Sat (tm p T) (gapB p run other mark lo hi) ↔ lowO lo (mom T run mark - mom T other mark) ∧ highO hi (mom T run mark - mom T other mark) := by
  unfold gapB
  rw [sat_app]
  unfold lowO highO
  cases lo <;> cases hi <;> simp only [sat_one, tm_pt hm] <;> simp [sat_nil] <;> omega
theorem sat_told {r p : Nat} {h : Option Nat} {x : Tel} {T : List (List Int)} (hT : T.length = r) (ok : x.Ok r p) : Sat (tm p T) (toldB r p h x) ↔ SoH T h x := by
  cases x with
  | span run a b lo hi =>
    obtain ⟨_, h1, h2, _⟩ := ok
    have ha : a ≤ p := by omega
    exact sat_span (run := run) (lo := some lo) (hi := some hi) ha h2
  | gap run other mark lo hi =>
    obtain ⟨_, _, _, _, h2, _⟩ := ok
    exact sat_gap (run := run) (other := other) (lo := some lo) (hi := some hi) h2
  | best a b time =>
    obtain ⟨h1, h2, _⟩ := ok
    unfold toldB SoH
    rw [sat_flat]
    constructor
    · intro q
      refine ⟨fun run hr => ((sat_span (by omega) h2).mp (q run (List.mem_range.mpr (by omega)))).1, fun run hr e => ?_⟩
      have := ((sat_span (by omega) h2).mp (q run (List.mem_range.mpr (by omega)))).2
      rw [if_pos e] at this
      exact this
    · rintro ⟨q1, q2⟩ run hr
      have hr' := List.mem_range.mp hr
      refine (sat_span (by omega) h2).mpr ⟨q1 run (by omega), ?_⟩
      split
      · exact q2 run (by omega) (by assumption)
      · trivial
theorem soH_so {T : List (List Int)} {h : Option Nat} {x : Tel} (hh : x.isBest = true → ∃ k, h = some k ∧ k < T.length) (s : SoH T h x) : So T x := by
  cases x with
  | span run a b lo hi => exact s
  | gap run other mark lo hi => exact s
  | best a b time =>
    obtain ⟨k, rfl, hk⟩ := hh rfl
    exact ⟨s.1, k, hk, s.2 k hk rfl⟩
theorem so_soH {T : List (List Int)} {x : Tel} (s : So T x) : ∃ k, (x.isBest = true → k < T.length) ∧ SoH T (if x.isBest = true then some k else none) x := by
  cases x with
  | span run a b lo hi => exact ⟨0, (fun z => by cases z), s⟩
  | gap run other mark lo hi => exact ⟨0, (fun z => by cases z), s⟩
  | best a b time =>
    obtain ⟨s1, k, hk, s2⟩ := s
    exact ⟨k, fun _ => hk, s1, fun run _ e => by cases e; exact s2⟩
/-- the bounds of tellings, held in turn -/
def SatH (t : Nat → Int) (r p : Nat) : List Tel → List Nat → Prop
  | [], _ => True
  | x :: xs, h => if x.isBest = true then Sat t (toldB r p h.head? x) ∧ SatH t r p xs h.tail else Sat t (toldB r p none x) ∧ SatH t r p xs h
theorem sat_fold {t : Nat → Int} {r p : Nat} : ∀ (ts : List Tel) (b : List Bd) (h : List Nat), Sat t (ts.foldl (bdStep r p) (b, h)).1 ↔ Sat t b ∧ SatH t r p ts h
  | [], b, h => by simp [SatH]
  | x :: xs, b, h => by
    rw [List.foldl_cons]
    unfold bdStep SatH
    cases e : x.isBest
    · rw [if_neg Bool.false_ne_true, if_neg Bool.false_ne_true]
      rw [show (fun s tel => if Tel.isBest tel = true then (s.1 ++ toldB r p s.2.head? tel, s.2.tail) else (s.1 ++ toldB r p none tel, s.2)) = bdStep r p from rfl, sat_fold xs, sat_app]
      exact and_assoc
    · rw [if_pos rfl, if_pos rfl]
      rw [show (fun s tel => if Tel.isBest tel = true then (s.1 ++ toldB r p s.2.head? tel, s.2.tail) else (s.1 ++ toldB r p none tel, s.2)) = bdStep r p from rfl, sat_fold xs, sat_app]
      exact and_assoc
/-- the ways in which bests can be held -/
def Hold (r : Nat) : List Tel → List Nat → Prop
  | [], h => h = []
  | x :: xs, h => if x.isBest = true then ∃ k q, h = k :: q ∧ k < r ∧ Hold r xs q else Hold r xs h
theorem hold_cons {r : Nat} {x : Tel} {xs : List Tel} {h : List Nat} : Hold r (x :: xs) h = (if x.isBest = true then ∃ k q, h = k :: q ∧ k < r ∧ Hold r xs q else Hold r xs h) := rfl
theorem mem_hold {r : Nat} : ∀ (ts : List Tel) (l : List (List Nat)) (h : List Nat), h ∈ ts.foldl (holdStep r) l ↔ ∃ a ∈ l, ∃ b, h = a ++ b ∧ Hold r ts b
  | [], l, h => by
    simp [Hold]
  | x :: xs, l, h => by
    rw [List.foldl_cons, mem_hold xs]
    simp only [hold_cons]
    unfold holdStep
    cases e : x.isBest
    · simp only [Bool.false_eq_true, if_false]
    · simp only [if_true]
      constructor
      · rintro ⟨a, ha, b, rfl, hb⟩
        obtain ⟨row, hrow, ha⟩ := List.mem_flatMap.mp ha
        obtain ⟨k, hk, rfl⟩ := List.mem_map.mp ha
        exact ⟨row, hrow, k :: b, by simp, k, b, rfl, List.mem_range.mp hk, hb⟩
      · rintro ⟨a, ha, b, rfl, k, q, rfl, hk, hq⟩
        exact ⟨a ++ [k], List.mem_flatMap.mpr ⟨a, ha, List.mem_map.mpr ⟨k, List.mem_range.mpr hk, rfl⟩⟩, q, by simp, hq⟩
theorem mem_holders {r : Nat} {ts : List Tel} {h : List Nat} : h ∈ holders r ts ↔ Hold r ts h := by
  unfold holders
  rw [mem_hold]
  simp
theorem satH_so {r p : Nat} {T : List (List Int)} (hT : T.length = r) : ∀ (ts : List Tel) (h : List Nat), (∀ x ∈ ts, x.Ok r p) → Hold r ts h → SatH (tm p T) r p ts h → ∀ x ∈ ts, So T x
  | x :: xs, h, ok, hh, s, y, hy => by
    unfold Hold at hh
    unfold SatH at s
    have okx := ok x List.mem_cons_self
    have okr : ∀ z ∈ xs, z.Ok r p := fun z hz => ok z (List.mem_cons_of_mem _ hz)
    cases e : x.isBest
    · simp only [e, Bool.false_eq_true, if_false] at hh s
      rcases List.mem_cons.mp hy with rfl | hy
      · exact soH_so (fun z => by rw [e] at z; cases z) ((sat_told hT okx).mp s.1)
      · exact satH_so hT xs h okr hh s.2 y hy
    · simp only [e, if_true] at hh s
      obtain ⟨k, q, rfl, hk, hq⟩ := hh
      rcases List.mem_cons.mp hy with rfl | hy
      · exact soH_so (fun _ => ⟨k, rfl, by omega⟩) ((sat_told hT okx).mp s.1)
      · exact satH_so hT xs q okr hq s.2 y hy
theorem so_satH {r p : Nat} {T : List (List Int)} (hT : T.length = r) : ∀ (ts : List Tel), (∀ x ∈ ts, x.Ok r p) → (∀ x ∈ ts, So T x) → ∃ h, Hold r ts h ∧ SatH (tm p T) r p ts h
  | [], _, _ => ⟨[], rfl, trivial⟩
  | x :: xs, ok, so => by
    obtain ⟨h, h1, h2⟩ := so_satH hT xs (fun z hz => ok z (List.mem_cons_of_mem _ hz)) (fun z hz => so z (List.mem_cons_of_mem _ hz))
    have okx := ok x List.mem_cons_self
    obtain ⟨k, hk, s⟩ := so_soH (so x List.mem_cons_self)
    unfold Hold SatH
    cases e : x.isBest
    · simp only [e, Bool.false_eq_true, if_false] at s ⊢
      exact ⟨h, h1, (sat_told hT okx).mpr s, h2⟩
    · simp only [e, if_true] at s ⊢
      exact ⟨k :: h, ⟨k, h, rfl, by rw [← hT]; exact hk e, h1⟩, (sat_told hT okx).mpr s, h2⟩
/-! ### times out of moments, and back -/
def rowsT (r p : Nat) (t : Nat → Int) : List (List Int) := (List.range r).map fun run => (List.range p).map fun m => t (pt p run (m + 1)) - t (pt p run m)
theorem sum_steps (f : Nat → Int) : ∀ n, ((List.range n).map fun m => f (m + 1) - f m).sum = f n - f 0
  | 0 => by simp
  | n + 1 => by
    rw [List.range_succ, List.map_append, List.sum_append, sum_steps f n]
    simp
    omega
theorem mom_rowsT {r p : Nat} {t : Nat → Int} {run mark : Nat} (hr : run < r) (hm : mark ≤ p) : mom (rowsT r p t) run mark = t (pt p run mark) - t 0 := by
  unfold mom rowsT
  rw [List.getD_eq_getElem?_getD, List.getElem?_map, List.getElem?_range hr]
  dsimp only [Option.map_some, Option.getD_some]
  rw [← List.map_take, List.take_range, Nat.min_eq_left hm, sum_steps (fun m => t (pt p run m))]
  rfl
theorem mem_plain {r p : Nat} {b : Bd} : b ∈ plainB r p ↔ ∃ run, run < r ∧ ∃ mark, mark < p ∧ b = (pt p run (mark + 1), pt p run mark, -1) := by
  unfold plainB
  rw [List.mem_flatMap]
  constructor
  · rintro ⟨run, hr, h⟩
    obtain ⟨m, hm, rfl⟩ := List.mem_map.mp h
    exact ⟨run, List.mem_range.mp hr, m, List.mem_range.mp hm, rfl⟩
  · rintro ⟨run, hr, m, hm, rfl⟩
    exact ⟨run, List.mem_range.mpr hr, List.mem_map.mpr ⟨m, List.mem_range.mpr hm, rfl⟩⟩
theorem shape_rowsT {r p : Nat} {t : Nat → Int} (h : Sat t (plainB r p)) : Shape r p (rowsT r p t) := by
  refine ⟨by simp [rowsT], fun x hx => ?_⟩
  unfold rowsT at hx
  obtain ⟨run, hr, rfl⟩ := List.mem_map.mp hx
  refine ⟨by simp, fun y hy => ?_⟩
  obtain ⟨m, hm, rfl⟩ := List.mem_map.mp hy
  have := h _ (mem_plain.mpr ⟨run, List.mem_range.mp hr, m, List.mem_range.mp hm, rfl⟩)
  dsimp only at this
  omega
theorem take_succ_sum {l : List Int} {n : Nat} (h : n < l.length) : (l.take (n + 1)).sum = (l.take n).sum + l[n] := by
  rw [List.take_succ_eq_append_getElem h, List.sum_append]
  simp
theorem shape_plain {r p : Nat} {T : List (List Int)} (h : Shape r p T) : Sat (tm p T) (plainB r p) := by
  intro b hb
  obtain ⟨run, hr, m, hm, rfl⟩ := mem_plain.mp hb
  dsimp only
  rw [tm_pt (by omega), tm_pt (by omega)]
  have hl : run < T.length := by rw [h.len]; exact hr
  have e : T.getD run [] = T[run] := by rw [List.getD_eq_getElem?_getD, List.getElem?_eq_getElem hl]; rfl
  unfold mom
  rw [e]
  obtain ⟨h1, h2⟩ := h.row _ (List.getElem_mem hl)
  have h3 : m < T[run].length := by omega
  rw [take_succ_sum h3]
  have := h2 _ (List.getElem_mem h3)
  omega
/-- every point has a name -/
theorem pt_of {r p x : Nat} (h : x < many r p) (hp : 0 < p) : x = 0 ∨ ∃ run mark, run < r ∧ 1 ≤ mark ∧ mark ≤ p ∧ x = pt p run mark := by
  by_cases z : x = 0
  · exact .inl z
  · refine .inr ⟨(x - 1) / p, (x - 1) % p + 1, ?_, by omega, ?_, ?_⟩
    · unfold many at h
      exact (Nat.div_lt_iff_lt_mul hp).mpr (by omega)
    · have := Nat.mod_lt (x - 1) hp; omega
    · unfold pt
      rw [if_neg (by omega)]
      have := Nat.div_add_mod (x - 1) p
      rw [Nat.mul_comm] at this
      omega
theorem tm_rowsT {r p : Nat} {t : Nat → Int} (hp : 0 < p) {x : Nat} (h : x < many r p) : tm p (rowsT r p t) x = t x - t 0 := by
  rcases pt_of h hp with rfl | ⟨run, mark, hr, h1, h2, rfl⟩
  · simp [tm]
  · rw [tm_pt h2, mom_rowsT hr h2]
theorem sat_shift {n : Nat} {bs : List Bd} {t t' : Nat → Int} {c : Int} (f : Fit n bs) (e : ∀ x, x < n → t' x = t x - c) (h : Sat t bs) : Sat t' bs := fun b hb => by
  obtain ⟨h1, h2⟩ := f b hb
  rw [e _ h1, e _ h2]
  have := h b hb
  omega
/-! ### the bounds fit -/
theorem fit_app {n : Nat} {a b : List Bd} (h : Fit n a) (h' : Fit n b) : Fit n (a ++ b) := fun x hx => by
  rcases List.mem_append.mp hx with z | z
  · exact h x z
  · exact h' x z
theorem fit_plain {r p : Nat} : Fit (many r p) (plainB r p) := fun b hb => by
  obtain ⟨run, hr, m, hm, rfl⟩ := mem_plain.mp hb
  exact ⟨pt_lt hr (show m + 1 ≤ p from hm), pt_lt hr (show m ≤ p by omega)⟩
theorem fit_span {r p run a b : Nat} {lo hi : Option Int} (hr : run < r) (ha : a ≤ p) (hb : b ≤ p) : Fit (many r p) (spanB p run a b lo hi) := by
  intro x hx
  unfold spanB at hx
  have h1 := pt_lt hr ha
  have h2 := pt_lt hr hb
  cases lo <;> cases hi <;> simp at hx
  · subst hx; exact ⟨h1, h2⟩
  · subst hx; exact ⟨h2, h1⟩
  · rcases hx with rfl | rfl
    · exact ⟨h2, h1⟩
    · exact ⟨h1, h2⟩
theorem fit_gap {r p run other mark : Nat} {lo hi : Option Int} (hr : run < r) (ho : other < r) (hm : mark ≤ p) : Fit (many r p) (gapB p run other mark lo hi) := by
  intro x hx
  unfold gapB at hx
  have h1 := pt_lt hr hm
  have h2 := pt_lt ho hm
  cases lo <;> cases hi <;> simp at hx
  · subst hx; exact ⟨h2, h1⟩
  · subst hx; exact ⟨h1, h2⟩
  · rcases hx with rfl | rfl
    · exact ⟨h1, h2⟩
    · exact ⟨h2, h1⟩
theorem fit_told {r p : Nat} {h : Option Nat} {x : Tel} (ok : x.Ok r p) : Fit (many r p) (toldB r p h x) := by
  cases x with
  | span run a b lo hi =>
    obtain ⟨h0, h1, h2, _⟩ := ok
    have ha : a ≤ p := by omega
    exact fit_span (lo := some lo) (hi := some hi) h0 ha h2
  | gap run other mark lo hi =>
    obtain ⟨h0, h1, _, _, h2, _⟩ := ok
    exact fit_gap (lo := some lo) (hi := some hi) h0 h1 h2
  | best a b time =>
    obtain ⟨h1, h2, _⟩ := ok
    intro y hy
    obtain ⟨run, hr, hy⟩ := List.mem_flatMap.mp hy
    exact fit_span (List.mem_range.mp hr) (by omega) h2 y hy
theorem fit_fold {r p : Nat} : ∀ (ts : List Tel) (b : List Bd) (h : List Nat), (∀ x ∈ ts, x.Ok r p) → Fit (many r p) b → Fit (many r p) (ts.foldl (bdStep r p) (b, h)).1
  | [], _, _, _, f => f
  | x :: xs, b, h, ok, f => by
    rw [List.foldl_cons]
    have okx := ok x List.mem_cons_self
    have e : bdStep r p (b, h) x = (b ++ toldB r p (if x.isBest then h.head? else none) x, if x.isBest then h.tail else h) := by
      unfold bdStep
      cases x.isBest <;> simp
    rw [e]
    exact fit_fold xs _ _ (fun z hz => ok z (List.mem_cons_of_mem _ hz)) (fit_app f (fit_told okx))
theorem fit_bounds {r p : Nat} {ts : List Tel} {h : List Nat} (ok : ∀ x ∈ ts, x.Ok r p) : Fit (many r p) (boundsOf r p ts h) := fit_fold ts _ h ok fit_plain
/-- the truths of tellings -/
structure IsT (r p : Nat) (ts : List Tel) (T : List (List Int)) : Prop where
  sh : Shape r p T
  so : ∀ x ∈ ts, So T x
theorem sat_bounds {r p : Nat} {ts : List Tel} {T : List (List Int)} {h : List Nat} (ok : ∀ x ∈ ts, x.Ok r p) (hT : T.length = r) (hh : h ∈ holders r ts) (sh : Shape r p T) (s : Sat (tm p T) (boundsOf r p ts h)) : IsT r p ts T :=
  ⟨sh, satH_so hT ts h ok (mem_holders.mp hh) ((sat_fold ts _ h).mp s).2⟩
theorem bounds_sat {r p : Nat} {ts : List Tel} {T : List (List Int)} (ok : ∀ x ∈ ts, x.Ok r p) (h : IsT r p ts T) : ∃ q ∈ holders r ts, Sat (tm p T) (boundsOf r p ts q) := by
  obtain ⟨q, h1, h2⟩ := so_satH h.sh.len ts ok h.so
  exact ⟨q, mem_holders.mpr h1, (sat_fold ts _ q).mpr ⟨shape_plain h.sh, h2⟩⟩
/-- from every table times can be read off -/
theorem sat_truth {r p : Nat} {ts : List Tel} {more : List Bd} {h : List Nat} {t : Nat → Int} (hp : 0 < p) (ok : ∀ x ∈ ts, x.Ok r p) (fm : Fit (many r p) more) (hh : h ∈ holders r ts) (s : Sat t (boundsOf r p ts h ++ more)) :
    IsT r p ts (rowsT r p t) ∧ Sat (tm p (rowsT r p t)) more := by
  obtain ⟨s1, s2⟩ := sat_app.mp s
  have sp := ((sat_fold ts _ h).mp s1).1
  have sh := shape_rowsT sp
  refine ⟨sat_bounds ok sh.len hh sh ?_, sat_shift fm (fun x hx => tm_rowsT hp hx) s2⟩
  exact sat_shift (fit_bounds ok) (fun x hx => tm_rowsT hp hx) s1
/-- all moments are known against the beginning -/
theorem way_zero {r p : Nat} {bs : List Bd} {g : G} (w : Way (many r p) bs g) (hs : ∀ b ∈ plainB r p, b ∈ bs) {run : Nat} (hr : run < r) : ∀ mark, mark ≤ p → ∃ d, gat g (pt p run mark) 0 = some d
  | 0, _ => ⟨0, by rw [show pt p run 0 = 0 from if_pos rfl]; exact w.zer 0 (by unfold many; omega)⟩
  | m + 1, hm => by
    obtain ⟨d, e⟩ := way_zero w hs hr m (by omega)
    obtain ⟨d', e', _⟩ := w.bnd _ (hs _ (mem_plain.mpr ⟨run, hr, m, by omega, rfl⟩))
    obtain ⟨c, ec, _⟩ := w.tri _ _ _ _ _ e' e
    exact ⟨c, ec⟩
theorem way_sat {r p : Nat} {bs : List Bd} {g : G} (hp : 0 < p) (f : Fit (many r p) bs) (w : Way (many r p) bs g) (hs : ∀ b ∈ plainB r p, b ∈ bs) : Sat (fun x => 0 - gti g x 0) bs := by
  have all : ∀ x, x < many r p → ∃ d, gat g x 0 = some d := fun x hx => by
    rcases pt_of hx hp with rfl | ⟨run, mark, hr, _, h2, rfl⟩
    · exact ⟨0, w.zer 0 hx⟩
    · exact way_zero w hs hr mark h2
  intro b hb
  obtain ⟨h1, h2⟩ := f b hb
  obtain ⟨d1, e1⟩ := all _ h1
  obtain ⟨d2, e2⟩ := all _ h2
  obtain ⟨d, e, l⟩ := w.bnd b hb
  obtain ⟨c, ec, lc⟩ := w.tri _ _ _ _ _ e e2
  rw [e1] at ec
  cases ec
  simp only [gti, e1, e2, Option.getD_some]
  omega
theorem momE_get {p : Nat} {g : G} {run m : Nat} (h : m ≤ p) (h0 : gat g 0 0 = some 0) : (momE p g run).getD m 0 = 0 - gti g (pt p run m) 0 := by
  unfold momE
  cases m with
  | zero => rw [show pt p run 0 = 0 from if_pos rfl]; simp [gti, h0]
  | succ m => simp [List.getElem?_range (show m < p by omega)]
theorem earliest_eq {r p : Nat} {g : G} (h0 : gat g 0 0 = some 0) : earliest r p g = rowsT r p (fun x => 0 - gti g x 0) := by
  unfold earliest rowsT
  refine List.map_congr_left fun run _ => List.map_congr_left fun m hm => ?_
  have := List.mem_range.mp hm
  rw [momE_get (by omega) h0, momE_get (by omega) h0]
theorem plain_fold {r p : Nat} : ∀ (ts : List Tel) (b : List Bd) (h : List Nat), ∀ x ∈ b, x ∈ (ts.foldl (bdStep r p) (b, h)).1
  | [], _, _, _, hx => hx
  | y :: ys, b, h, x, hx => by
    rw [List.foldl_cons]
    have e : bdStep r p (b, h) y = (b ++ toldB r p (if y.isBest then h.head? else none) y, if y.isBest then h.tail else h) := by
      unfold bdStep
      cases y.isBest <;> simp
    rw [e]
    exact plain_fold ys _ _ x (List.mem_append_left _ hx)
theorem plain_in {r p : Nat} {ts : List Tel} {h : List Nat} {more : List Bd} : ∀ b ∈ plainB r p, b ∈ boundsOf r p ts h ++ more := fun b hb => List.mem_append_left _ (plain_fold ts _ h b hb)
theorem mem_tables {r p : Nat} {ts : List Tel} {more : List Bd} {g : G} (h : g ∈ tablesOf r p ts more) : ∃ q ∈ holders r ts, closed (many r p) (boundsOf r p ts q ++ more) = some g := List.mem_filterMap.mp h
theorem table_truth {r p : Nat} {ts : List Tel} {more : List Bd} {g : G} (hp : 0 < p) (ok : ∀ x ∈ ts, x.Ok r p) (fm : Fit (many r p) more) (h : g ∈ tablesOf r p ts more) : IsT r p ts (earliest r p g) ∧ Sat (tm p (earliest r p g)) more := by
  obtain ⟨q, hq, e⟩ := mem_tables h
  have f := fit_app (fit_bounds (h := q) ok) fm
  have w := closed_some f e
  rw [earliest_eq (w.zer 0 (by unfold many; omega))]
  exact sat_truth hp ok fm hq (way_sat hp f w plain_in)
theorem truth_table {r p : Nat} {ts : List Tel} {more : List Bd} {T : List (List Int)} (ok : ∀ x ∈ ts, x.Ok r p) (fm : Fit (many r p) more) (h : IsT r p ts T) (s : Sat (tm p T) more) : ∃ q ∈ holders r ts, ∃ g ∈ tablesOf r p ts more, closed (many r p) (boundsOf r p ts q ++ more) = some g ∧ Snd (tm p T) g := by
  obtain ⟨q, hq, s1⟩ := bounds_sat ok h
  have f := fit_app (fit_bounds (h := q) ok) fm
  cases e : closed (many r p) (boundsOf r p ts q ++ more) with
  | none => exact absurd (sat_app.mpr ⟨s1, s⟩) (closed_none f e _)
  | some g => exact ⟨q, hq, g, List.mem_filterMap.mpr ⟨q, hq, e⟩, e, (closed_some f e).snd _ (sat_app.mpr ⟨s1, s⟩)⟩
theorem first_some {r p : Nat} {ts : List Tel} {more : List Bd} {T : List (List Int)} (hp : 0 < p) (ok : ∀ x ∈ ts, x.Ok r p) (fm : Fit (many r p) more) (h : firstTruth r p ts more = some T) : IsT r p ts T ∧ Sat (tm p T) more := by
  unfold firstTruth at h
  split at h
  · cases h
  · rename_i g l e
    cases h
    exact table_truth hp ok fm (by rw [e]; exact List.mem_cons_self)
theorem first_none {r p : Nat} {ts : List Tel} {more : List Bd} {T : List (List Int)} (ok : ∀ x ∈ ts, x.Ok r p) (fm : Fit (many r p) more) (h : firstTruth r p ts more = none) (t : IsT r p ts T) : ¬ Sat (tm p T) more := fun s => by
  obtain ⟨q, hq, g, hg, _⟩ := truth_table ok fm t s
  unfold firstTruth at h
  split at h
  · rename_i e; rw [e] at hg; cases hg
  · cases h
/-! ### what breaks a telling -/
def against (r p : Nat) : Tel → List (List Bd)
  | .span run a b lo hi => [spanB p run a b none (some (lo - 1)), spanB p run a b (some (hi + 1)) none]
  | .gap run other mark lo hi => [gapB p run other mark none (some (lo - 1)), gapB p run other mark (some (hi + 1)) none]
  | .best a b time => (List.range r).map (fun run => spanB p run a b none (some (time - 1))) ++ [(List.range r).flatMap fun run => spanB p run a b (some (time + 1)) none]
def breaking (r p : Nat) (ts : List Tel) (x : Tel) : Option (List (List Int)) := (against r p x).findSome? fun more => firstTruth r p ts more
theorem fit_against {r p : Nat} {x : Tel} (ok : x.Ok r p) : ∀ more ∈ against r p x, Fit (many r p) more := by
  intro more hm
  cases x with
  | span run a b lo hi =>
    obtain ⟨h0, h1, h2, _⟩ := ok
    simp [against] at hm
    rcases hm with rfl | rfl <;> exact fit_span h0 (by omega) h2
  | gap run other mark lo hi =>
    obtain ⟨h0, h1, _, _, h2, _⟩ := ok
    simp [against] at hm
    rcases hm with rfl | rfl <;> exact fit_gap h0 h1 h2
  | best a b time =>
    obtain ⟨h1, h2, _⟩ := ok
    rcases List.mem_append.mp hm with z | z
    · obtain ⟨run, hr, rfl⟩ := List.mem_map.mp z
      exact fit_span (List.mem_range.mp hr) (by omega) h2
    · rw [List.mem_singleton] at z
      subst z
      intro y hy
      obtain ⟨run, hr, hy⟩ := List.mem_flatMap.mp hy
      exact fit_span (List.mem_range.mp hr) (by omega) h2 y hy
theorem against_iff {r p : Nat} {x : Tel} {T : List (List Int)} (hT : T.length = r) (ok : x.Ok r p) : (∃ more ∈ against r p x, Sat (tm p T) more) ↔ ¬ So T x := by
  cases x with
  | span run a b lo hi =>
    obtain ⟨h0, h1, h2, _⟩ := ok
    simp only [against, List.mem_cons, List.not_mem_nil, or_false, exists_eq_or_imp, exists_eq_left, sat_span (show a ≤ p by omega) h2, lowO, highO, So, true_and, and_true]
    omega
  | gap run other mark lo hi =>
    obtain ⟨h0, h1, _, _, h2, _⟩ := ok
    simp only [against, List.mem_cons, List.not_mem_nil, or_false, exists_eq_or_imp, exists_eq_left, sat_gap h2, lowO, highO, So, true_and, and_true]
    omega
  | best a b time =>
    obtain ⟨h1, h2, _⟩ := ok
    have ha : a ≤ p := by omega
    constructor
    · rintro ⟨more, hm, s⟩ ⟨s1, k, hk, s2⟩
      rcases List.mem_append.mp hm with z | z
      · obtain ⟨run, hr, rfl⟩ := List.mem_map.mp z
        have := ((sat_span ha h2).mp s).2
        have hr' := List.mem_range.mp hr
        have := s1 run (by omega)
        simp only [highO] at *
        omega
      · rw [List.mem_singleton] at z
        subst z
        rw [sat_flat] at s
        have := ((sat_span ha h2).mp (s k (List.mem_range.mpr (by omega)))).1
        simp only [lowO] at this
        omega
    · intro h
      by_cases q : ∀ run, run < T.length → time ≤ took T run a b
      · refine ⟨_, List.mem_append_right _ (List.mem_singleton.mpr rfl), ?_⟩
        rw [sat_flat]
        intro run hr
        refine (sat_span ha h2).mpr ⟨?_, trivial⟩
        have hr' := List.mem_range.mp hr
        have := q run (by omega)
        simp only [lowO]
        have : ¬ took T run a b ≤ time := fun z => h ⟨q, run, by omega, z⟩
        omega
      · have ⟨run, hn⟩ := Classical.not_forall.mp q
        have ⟨hr, hn⟩ := Classical.not_imp.mp hn
        refine ⟨_, List.mem_append_left _ (List.mem_map.mpr ⟨run, List.mem_range.mpr (by omega), rfl⟩), (sat_span ha h2).mpr ⟨trivial, ?_⟩⟩
        simp only [highO]
        omega
theorem breaking_some {r p : Nat} {ts : List Tel} {x : Tel} {T : List (List Int)} (hp : 0 < p) (ok : ∀ x ∈ ts, x.Ok r p) (okx : x.Ok r p) (h : breaking r p ts x = some T) : IsT r p ts T ∧ ¬ So T x := by
  obtain ⟨more, hm, e⟩ := List.exists_of_findSome?_eq_some h
  obtain ⟨t, s⟩ := first_some hp ok (fit_against okx more hm) e
  exact ⟨t, (against_iff t.sh.len okx).mp ⟨more, hm, s⟩⟩
theorem breaking_none {r p : Nat} {ts : List Tel} {x : Tel} {T : List (List Int)} (ok : ∀ x ∈ ts, x.Ok r p) (okx : x.Ok r p) (h : breaking r p ts x = none) (t : IsT r p ts T) : So T x := by
  refine Classical.byContradiction fun n => ?_
  obtain ⟨more, hm, s⟩ := (against_iff t.sh.len okx).mpr n
  exact first_none ok (fit_against okx more hm) (List.findSome?_eq_none_iff.mp h more hm) t s
end FW

namespace FW
/-! ## all truths whose runs take at most so much in all -/
def rowsStep (most : Int) (found : List (List Int)) : List (List Int) := found.flatMap fun row => (List.range (most - row.sum).toNat).map fun k : Nat => row ++ [1 + (k : Int)]
def rowsL (most : Int) : Nat → List (List Int)
  | 0 => [[]]
  | n + 1 => rowsStep most (rowsL most n)
theorem sum_pos {l : List Int} (h : ∀ y ∈ l, 1 ≤ y) : (l.length : Int) ≤ l.sum := by
  induction l with
  | nil => simp
  | cons x l ih =>
    have h1 := h x List.mem_cons_self
    have h2 := ih fun y hy => h y (List.mem_cons_of_mem _ hy)
    rw [List.length_cons, List.sum_cons]
    omega
theorem mem_rows {most : Int} (hm : 0 ≤ most) : ∀ (n : Nat) (x : List Int), x ∈ rowsL most n ↔ x.length = n ∧ (∀ y ∈ x, 1 ≤ y) ∧ x.sum ≤ most
  | 0, x => by
    rw [show rowsL most 0 = [[]] from rfl, List.mem_singleton]
    constructor
    · rintro rfl; simp; exact hm
    · rintro ⟨h, _⟩; exact List.length_eq_zero_iff.mp h
  | n + 1, x => by
    show x ∈ rowsStep most (rowsL most n) ↔ _
    unfold rowsStep
    rw [List.mem_flatMap]
    constructor
    · rintro ⟨row, hr, hx⟩
      obtain ⟨k, hk, rfl⟩ := List.mem_map.mp hx
      obtain ⟨h1, h2, h3⟩ := (mem_rows hm n row).mp hr
      have hk := List.mem_range.mp hk
      refine ⟨by simp [h1], fun y hy => ?_, by simp; omega⟩
      rcases List.mem_append.mp hy with z | z
      · exact h2 y z
      · rw [List.mem_singleton] at z; omega
    · rintro ⟨h1, h2, h3⟩
      have hne : x ≠ [] := fun z => by rw [z] at h1; cases h1
      obtain ⟨row, y, rfl⟩ : ∃ row y, x = row ++ [y] := ⟨x.dropLast, x.getLast hne, (List.dropLast_concat_getLast hne).symm⟩
      have hy := h2 y (List.mem_append_right _ (List.mem_singleton.mpr rfl))
      rw [List.sum_append] at h3
      simp at h1 h3
      refine ⟨row, (mem_rows hm n row).mpr ⟨h1, fun z hz => h2 z (List.mem_append_left _ hz), by omega⟩, List.mem_map.mpr ⟨(y - 1).toNat, List.mem_range.mpr (by omega), by rw [show 1 + ((y - 1).toNat : Int) = y by omega]⟩⟩
def sumAB (row : List Int) (a b : Nat) : Int := ((row.drop a).take (b - a)).sum
theorem sumAB_took {T : List (List Int)} {run a b : Nat} (h : a ≤ b) : sumAB (T.getD run []) a b = took T run a b := by
  unfold took mom sumAB
  have e : (T.getD run []).take b = (T.getD run []).take a ++ ((T.getD run []).drop a).take (b - a) := by
    rw [← List.take_add, show a + (b - a) = b by omega]
  rw [e, List.sum_append]
  omega
def mine (ts : List Tel) (run : Nat) : List Tel := ts.filter fun x => match x with
  | .span k _ _ _ _ => k == run
  | _ => false
def rowB (row : List Int) : Tel → Bool
  | .span _ a b lo hi => decide (lo ≤ sumAB row a b ∧ sumAB row a b ≤ hi)
  | _ => true
def isSpan : Tel → Bool
  | .span _ _ _ _ _ => true
  | _ => false
def later (ts : List Tel) (rows : List (List Int)) (run : Nat) : List (List Int) := rows.filter fun row => (mine ts run).all (rowB row)
def runStep (ts : List Tel) (rows : List (List Int)) (found : List (List (List Int))) (run : Nat) : List (List (List Int)) := found.flatMap fun T => (later ts rows run).map fun row => T ++ [row]
def runsL (ts : List Tel) (rows : List (List Int)) (k : Nat) : List (List (List Int)) := (List.range k).foldl (runStep ts rows) [[]]
def allT (r p : Nat) (ts : List Tel) (most : Int) : List (List (List Int)) := (runsL ts (rowsL most p) r).filter fun T => (ts.filter fun x => !isSpan x).all fun x => decide (So T x)
theorem mem_runs {ts : List Tel} {rows : List (List Int)} : ∀ (k : Nat) (T : List (List Int)), T ∈ runsL ts rows k ↔ T.length = k ∧ ∀ i, i < k → T.getD i [] ∈ later ts rows i
  | 0, T => by
    simp [runsL]
  | k + 1, T => by
    have e : runsL ts rows (k + 1) = runStep ts rows (runsL ts rows k) k := by simp [runsL, List.range_succ]
    rw [e]
    unfold runStep
    rw [List.mem_flatMap]
    constructor
    · rintro ⟨U, hU, hT⟩
      obtain ⟨row, hr, rfl⟩ := List.mem_map.mp hT
      obtain ⟨h1, h2⟩ := (mem_runs k U).mp hU
      refine ⟨by simp [h1], fun i hi => ?_⟩
      rw [List.getD_eq_getElem?_getD]
      by_cases z : i < k
      · rw [List.getElem?_append_left (by omega), ← List.getD_eq_getElem?_getD]
        exact h2 i z
      · have : i = k := by omega
        subst this
        rw [List.getElem?_append_right (by omega), h1]
        simpa using hr
    · rintro ⟨h1, h2⟩
      have hne : T ≠ [] := fun z => by rw [z] at h1; cases h1
      obtain ⟨U, row, rfl⟩ : ∃ U row, T = U ++ [row] := ⟨T.dropLast, T.getLast hne, (List.dropLast_concat_getLast hne).symm⟩
      have hl : U.length = k := by simpa using h1
      refine ⟨U, (mem_runs k U).mpr ⟨hl, fun i hi => ?_⟩, List.mem_map.mpr ⟨row, ?_, rfl⟩⟩
      · have := h2 i (by omega)
        rw [List.getD_eq_getElem?_getD, List.getElem?_append_left (by omega), ← List.getD_eq_getElem?_getD] at this
        exact this
      · have := h2 k (by omega)
        rw [List.getD_eq_getElem?_getD, List.getElem?_append_right (by omega), hl] at this
        simpa using this
theorem mem_allT {r p : Nat} {ts : List Tel} {most : Int} {T : List (List Int)} (hm : 0 ≤ most) (ok : ∀ x ∈ ts, x.Ok r p) : T ∈ allT r p ts most ↔ IsT r p ts T ∧ ∀ x ∈ T, x.sum ≤ most := by
  unfold allT
  rw [List.mem_filter, mem_runs, List.all_eq_true]
  constructor
  · rintro ⟨⟨h1, h2⟩, h3⟩
    have row : ∀ x ∈ T, ∃ i, i < r ∧ x = T.getD i [] := fun x hx => by
      obtain ⟨i, hi, e⟩ := List.mem_iff_getElem.mp hx
      exact ⟨i, by omega, by rw [List.getD_eq_getElem?_getD, List.getElem?_eq_getElem hi]; exact e.symm⟩
    have rr : ∀ x ∈ T, x.length = p ∧ (∀ y ∈ x, 1 ≤ y) ∧ x.sum ≤ most := fun x hx => by
      obtain ⟨i, hi, rfl⟩ := row x hx
      exact (mem_rows hm p _).mp (List.mem_filter.mp (h2 i hi)).1
    refine ⟨⟨⟨h1, fun x hx => ⟨(rr x hx).1, (rr x hx).2.1⟩⟩, fun x hx => ?_⟩, fun x hx => (rr x hx).2.2⟩
    cases hs : isSpan x with
    | false => exact of_decide_eq_true (h3 x (List.mem_filter.mpr ⟨hx, by rw [hs]; rfl⟩))
    | true =>
      cases x with
      | span run a b lo hi =>
        obtain ⟨o1, o2, _⟩ := ok _ hx
        have := (List.mem_filter.mp (h2 run o1)).2
        rw [List.all_eq_true] at this
        have := of_decide_eq_true (this _ (List.mem_filter.mpr ⟨hx, by simp⟩))
        rw [sumAB_took (by omega)] at this
        exact this
      | gap _ _ _ _ _ => cases hs
      | best _ _ _ => cases hs
  · rintro ⟨⟨⟨h1, h2⟩, h3⟩, h4⟩
    refine ⟨⟨h1, fun i hi => ?_⟩, fun x hx => decide_eq_true (h3 x (List.mem_filter.mp hx).1)⟩
    have hl : i < T.length := by omega
    have hmem : T.getD i [] ∈ T := by
      rw [List.getD_eq_getElem?_getD, List.getElem?_eq_getElem hl]
      exact List.getElem_mem hl
    refine List.mem_filter.mpr ⟨(mem_rows hm p _).mpr ⟨(h2 _ hmem).1, (h2 _ hmem).2, h4 _ hmem⟩, ?_⟩
    rw [List.all_eq_true]
    intro x hx
    obtain ⟨hx1, hx2⟩ := List.mem_filter.mp hx
    cases x with
    | span run a b lo hi =>
      have e : run = i := by simpa using hx2
      subst e
      obtain ⟨o1, o2, _⟩ := ok _ hx1
      refine decide_eq_true ?_
      rw [sumAB_took (by omega)]
      exact h3 _ hx1
    | gap _ _ _ _ _ => rfl
    | best _ _ _ => rfl
/-- each run is capped -/
def Capped (r p : Nat) (ts : List Tel) (most : Int) : Prop := ∀ run, run < r → ∃ lo hi, Tel.span run 0 p lo hi ∈ ts ∧ hi ≤ most
theorem mem_allT' {r p : Nat} {ts : List Tel} {most : Int} {T : List (List Int)} (hm : 0 ≤ most) (ok : ∀ x ∈ ts, x.Ok r p) (c : Capped r p ts most) : T ∈ allT r p ts most ↔ IsT r p ts T := by
  rw [mem_allT hm ok]
  refine ⟨fun h => h.1, fun h => ⟨h, fun x hx => ?_⟩⟩
  obtain ⟨i, hi, e⟩ := List.mem_iff_getElem.mp hx
  obtain ⟨lo, hi', h1, h2⟩ := c i (by rw [← h.sh.len]; exact hi)
  have := (h.so _ h1).2
  rw [← sumAB_took (by omega)] at this
  have e' : T.getD i [] = x := by rw [List.getD_eq_getElem?_getD, List.getElem?_eq_getElem hi]; exact e
  rw [e'] at this
  unfold sumAB at this
  rw [List.drop_zero, Nat.sub_zero, List.take_of_length_le (by rw [(h.sh.row x hx).1]; exact Nat.le_refl _)] at this
  omega
end FW

namespace FW
/-! ## ranges -/
theorem told_in {r p : Nat} {x : Tel} {b : Bd} (hx : x.isBest = false) (hb : b ∈ toldB r p none x) : ∀ (ts : List Tel) (b0 : List Bd) (h : List Nat), x ∈ ts → b ∈ (ts.foldl (bdStep r p) (b0, h)).1
  | y :: ys, b0, h, hm => by
    rw [List.foldl_cons]
    rcases List.mem_cons.mp hm with rfl | hm
    · have e : bdStep r p (b0, h) x = (b0 ++ toldB r p none x, h) := by
        unfold bdStep
        rw [if_neg (by rw [hx]; simp)]
      rw [e]
      exact plain_fold ys _ _ b (List.mem_append_right _ hb)
    · have e : bdStep r p (b0, h) y = ((bdStep r p (b0, h) y).1, (bdStep r p (b0, h) y).2) := rfl
      rw [e]
      exact told_in hx hb ys _ _ hm
theorem way_full {r p : Nat} {bs : List Bd} {g : G} (hp : 0 < p) (w : Way (many r p) bs g) (hs : ∀ b ∈ plainB r p, b ∈ bs) (hc : ∀ run, run < r → ∃ hi, (pt p run 0, pt p run p, hi) ∈ bs) :
    ∀ x y, x < many r p → y < many r p → ∃ d, gat g x y = some d := by
  have from0 : ∀ run, run < r → ∀ k m, m + k = p → ∃ d, gat g 0 (pt p run m) = some d := by
    intro run hr k
    induction k with
    | zero =>
      intro m hm
      obtain ⟨hi, hc⟩ := hc run hr
      obtain ⟨d, e, _⟩ := w.bnd _ hc
      have : m = p := by omega
      subst this
      rw [show pt m run 0 = 0 from if_pos rfl] at e
      exact ⟨d, e⟩
    | succ k ih =>
      intro m hm
      obtain ⟨d, e⟩ := ih (m + 1) (by omega)
      obtain ⟨d', e', _⟩ := w.bnd _ (hs _ (mem_plain.mpr ⟨run, hr, m, by omega, rfl⟩))
      obtain ⟨c, ec, _⟩ := w.tri _ _ _ _ _ e e'
      exact ⟨c, ec⟩
  have z0 : 0 < many r p := by unfold many; omega
  have to0 : ∀ x, x < many r p → ∃ d, gat g x 0 = some d := fun x hx => by
    rcases pt_of hx hp with rfl | ⟨run, mark, hr, _, h2, rfl⟩
    · exact ⟨0, w.zer 0 hx⟩
    · exact way_zero w hs hr mark h2
  intro x y hx hy
  obtain ⟨d1, e1⟩ := to0 x hx
  rcases pt_of hy hp with rfl | ⟨run, mark, hr, _, h2, rfl⟩
  · exact ⟨d1, e1⟩
  · obtain ⟨d2, e2⟩ := from0 run hr (p - mark) mark (by omega)
    obtain ⟨c, ec, _⟩ := w.tri _ _ _ _ _ e1 e2
    exact ⟨c, ec⟩
theorem cap_bounds {r p : Nat} {ts : List Tel} {M : Int} (c : Capped r p ts M) {h : List Nat} {more : List Bd} : ∀ run, run < r → ∃ hi, (pt p run 0, pt p run p, hi) ∈ boundsOf r p ts h ++ more := fun run hr => by
  obtain ⟨lo, hi, h1, _⟩ := c run hr
  refine ⟨hi, List.mem_append_left _ (told_in (x := .span run 0 p lo hi) rfl ?_ ts _ h h1)⟩
  unfold toldB spanB
  simp
/-- what a table that lets a truth be is worth, all runs being capped -/
structure Full (r p : Nat) (ts : List Tel) (g : G) : Prop where
  def' : ∀ x y, x < many r p → y < many r p → ∃ d, gat g x y = some d
  far : ∀ a b, a < many r p → b < many r p → ∃ T, IsT r p ts T ∧ tm p T b - tm p T a = gti g a b
theorem full_of {r p : Nat} {ts : List Tel} {M : Int} {g : G} (hp : 0 < p) (ok : ∀ x ∈ ts, x.Ok r p) (c : Capped r p ts M) (hg : g ∈ tablesOf r p ts []) : Full r p ts g := by
  obtain ⟨q, hq, e⟩ := mem_tables hg
  have fn : Fit (many r p) ([] : List Bd) := fun x hx => absurd hx List.not_mem_nil
  have f := fit_app (fit_bounds (h := q) ok) fn
  have w := closed_some f e
  have d := way_full hp w plain_in (cap_bounds c)
  refine ⟨d, fun a b ha hb => ?_⟩
  have s : Sat (fun x => gti g a x) (boundsOf r p ts q ++ []) := by
    intro bd hbd
    obtain ⟨h1, h2⟩ := f bd hbd
    obtain ⟨d1, e1⟩ := d a _ ha h1
    obtain ⟨d2, e2⟩ := d a _ ha h2
    obtain ⟨d3, e3, l3⟩ := w.bnd bd hbd
    obtain ⟨c', ec, lc⟩ := w.tri _ _ _ _ _ e1 e3
    rw [e2] at ec
    cases ec
    simp only [gti, e1, e2, Option.getD_some]
    omega
  obtain ⟨t, _⟩ := sat_truth hp ok fn hq s
  refine ⟨_, t, ?_⟩
  rw [tm_rowsT hp ha, tm_rowsT hp hb]
  have z := w.zer a ha
  simp only [gti, z, Option.getD_some]
  omega
theorem near_of {r p : Nat} {ts : List Tel} {M : Int} {T : List (List Int)} (hp : 0 < p) (ok : ∀ x ∈ ts, x.Ok r p) (c : Capped r p ts M) (t : IsT r p ts T) : ∃ g ∈ tablesOf r p ts [], ∀ a b, a < many r p → b < many r p → tm p T b - tm p T a ≤ gti g a b := by
  obtain ⟨q, hq, g, hg, e, s⟩ := truth_table ok (fun x hx => absurd hx List.not_mem_nil) t sat_nil
  refine ⟨g, hg, fun a b ha hb => ?_⟩
  obtain ⟨d, ed⟩ := (full_of hp ok c hg).def' a b ha hb
  have := s a b d ed
  simp only [gti, ed, Option.getD_some]
  exact this
theorem tables_ne {r p : Nat} {ts : List Tel} {T : List (List Int)} (ok : ∀ x ∈ ts, x.Ok r p) (t : IsT r p ts T) : tablesOf r p ts [] ≠ [] := fun z => by
  obtain ⟨q, hq, g, hg, _⟩ := truth_table ok (fun x hx => absurd hx List.not_mem_nil) t (more := []) sat_nil
  rw [z] at hg; cases hg
theorem truth_ne {r p : Nat} {ts : List Tel} (hp : 0 < p) (ok : ∀ x ∈ ts, x.Ok r p) (h : tablesOf r p ts [] ≠ []) : ∃ T, IsT r p ts T := by
  cases e : tablesOf r p ts [] with
  | nil => exact absurd e h
  | cons g l => exact ⟨_, (table_truth hp ok (fun x hx => absurd hx List.not_mem_nil) (by rw [e]; exact List.mem_cons_self)).1⟩
end FW

namespace Z
open PySem PySem.Spec PyProof.Rows L2 DL
section
variable {P : Program} {w : World} {K : PySem.W.Frag} {mg : Str → Option Value} {base : Heap}
def topS (i : Nat) : Stmt := PySem.Challenge.pw_runsplits_k13_attempts_at_desks.main.body.getD i (.Pass ⟨0, 0, 0, 0⟩)
def clsB : List Stmt := match topS 39 with
  | .ClassDef _ _ _ b _ _ _ _ _ _ _ => b
  | _ => []
def dS (j : Nat) : Stmt := clsB.getD j (.Pass ⟨0, 0, 0, 0⟩)
abbrev s_is_int : Stmt := topS 19
abbrev n_is_int : List Str := ["value", "low", "high"]
abbrev p_is_int : List Str := ["value", "low", "high"]
theorem sc_is_int : FnScope n_is_int p_is_int (defScope s_is_int) := ⟨rfl, rfl, rfl, by decide +kernel, rfl, by decide +kernel, by decide +kernel⟩
abbrev s_tells : Stmt := topS 20
abbrev n_tells : List Str := ["runs", "pieces", "value"]
abbrev p_tells : List Str := ["runs", "pieces", "value"]
theorem sc_tells : FnScope n_tells p_tells (defScope s_tells) := ⟨rfl, rfl, rfl, by decide +kernel, rfl, by decide +kernel, by decide +kernel⟩
abbrev s_point : Stmt := topS 22
abbrev n_point : List Str := ["book", "run", "mark"]
abbrev p_point : List Str := ["book", "run", "mark"]
theorem sc_point : FnScope n_point p_point (defScope s_point) := ⟨rfl, rfl, rfl, by decide +kernel, rfl, by decide +kernel, by decide +kernel⟩
abbrev s_plain : Stmt := topS 23
abbrev n_plain : List Str := ["book", "found", "run", "mark"]
abbrev p_plain : List Str := ["book"]
theorem sc_plain : FnScope n_plain p_plain (defScope s_plain) := ⟨rfl, rfl, rfl, by decide +kernel, rfl, by decide +kernel, by decide +kernel⟩
abbrev s_span_bounds : Stmt := topS 24
abbrev n_span_bounds : List Str := ["book", "run", "first", "last", "low", "high", "one", "other", "found"]
abbrev p_span_bounds : List Str := ["book", "run", "first", "last", "low", "high"]
theorem sc_span_bounds : FnScope n_span_bounds p_span_bounds (defScope s_span_bounds) := ⟨rfl, rfl, rfl, by decide +kernel, rfl, by decide +kernel, by decide +kernel⟩
abbrev s_gap_bounds : Stmt := topS 25
abbrev n_gap_bounds : List Str := ["book", "run", "other", "mark", "low", "high", "here", "there", "found"]
abbrev p_gap_bounds : List Str := ["book", "run", "other", "mark", "low", "high"]
theorem sc_gap_bounds : FnScope n_gap_bounds p_gap_bounds (defScope s_gap_bounds) := ⟨rfl, rfl, rfl, by decide +kernel, rfl, by decide +kernel, by decide +kernel⟩
abbrev s_told_bounds : Stmt := topS 26
abbrev n_told_bounds : List Str := ["book", "telling", "holder", "found", "run", "high"]
abbrev p_told_bounds : List Str := ["book", "telling", "holder"]
theorem sc_told_bounds : FnScope n_told_bounds p_told_bounds (defScope s_told_bounds) := ⟨rfl, rfl, rfl, by decide +kernel, rfl, by decide +kernel, by decide +kernel⟩
abbrev s_holder_rows : Stmt := topS 27
abbrev n_holder_rows : List Str := ["book", "tellings", "found", "telling", "row", "run"]
abbrev p_holder_rows : List Str := ["book", "tellings"]
theorem sc_holder_rows : FnScope n_holder_rows p_holder_rows (defScope s_holder_rows) := ⟨rfl, rfl, rfl, by decide +kernel, rfl, by decide +kernel, by decide +kernel⟩
abbrev s_bounds_of : Stmt := topS 28
abbrev n_bounds_of : List Str := ["book", "tellings", "holders", "found", "left", "telling", "holder"]
abbrev p_bounds_of : List Str := ["book", "tellings", "holders"]
theorem sc_bounds_of : FnScope n_bounds_of p_bounds_of (defScope s_bounds_of) := ⟨rfl, rfl, rfl, by decide +kernel, rfl, by decide +kernel, by decide +kernel⟩
abbrev s_closed : Stmt := topS 29
abbrev n_closed : List Str := ["book", "bounds", "many", "table", "other", "one", "most", "middle", "more", "way"]
abbrev p_closed : List Str := ["book", "bounds"]
theorem sc_closed : FnScope n_closed p_closed (defScope s_closed) := ⟨rfl, rfl, rfl, by decide +kernel, rfl, by decide +kernel, by decide +kernel⟩
abbrev s_tables_of : Stmt := topS 30
abbrev n_tables_of : List Str := ["book", "tellings", "more", "found", "holders", "table"]
abbrev p_tables_of : List Str := ["book", "tellings", "more"]
theorem sc_tables_of : FnScope n_tables_of p_tables_of (defScope s_tables_of) := ⟨rfl, rfl, rfl, by decide +kernel, rfl, by decide +kernel, by decide +kernel⟩
abbrev s_earliest : Stmt := topS 31
abbrev n_earliest : List Str := ["book", "table", "found", "run", "moments", "mark", "at"]
abbrev p_earliest : List Str := ["book", "table"]
theorem sc_earliest : FnScope n_earliest p_earliest (defScope s_earliest) := ⟨rfl, rfl, rfl, by decide +kernel, rfl, by decide +kernel, by decide +kernel⟩
abbrev s_first_truth : Stmt := topS 33
abbrev n_first_truth : List Str := ["book", "tellings", "more", "tables"]
abbrev p_first_truth : List Str := ["book", "tellings", "more"]
theorem sc_first_truth : FnScope n_first_truth p_first_truth (defScope s_first_truth) := ⟨rfl, rfl, rfl, by decide +kernel, rfl, by decide +kernel, by decide +kernel⟩
abbrev s_against : Stmt := topS 35
abbrev n_against : List Str := ["book", "telling", "run", "first", "last", "low", "high", "other", "mark", "time", "found", "more"]
abbrev p_against : List Str := ["book", "telling"]
theorem sc_against : FnScope n_against p_against (defScope s_against) := ⟨rfl, rfl, rfl, by decide +kernel, rfl, by decide +kernel, by decide +kernel⟩
abbrev s_breaking : Stmt := topS 36
abbrev n_breaking : List Str := ["book", "tellings", "telling", "more", "found"]
abbrev p_breaking : List Str := ["book", "tellings", "telling"]
theorem sc_breaking : FnScope n_breaking p_breaking (defScope s_breaking) := ⟨rfl, rfl, rfl, by decide +kernel, rfl, by decide +kernel, by decide +kernel⟩
abbrev s_needless_of : Stmt := topS 37
abbrev n_needless_of : List Str := ["book", "found", "at"]
abbrev p_needless_of : List Str := ["book"]
theorem sc_needless_of : FnScope n_needless_of p_needless_of (defScope s_needless_of) := ⟨rfl, rfl, rfl, by decide +kernel, rfl, by decide +kernel, by decide +kernel⟩
abbrev s__law_vial_of : Stmt := topS 41
abbrev n__law_vial_of : List Str := ["_law_script", "_law_k", "_law_cell"]
abbrev p__law_vial_of : List Str := ["_law_script", "_law_k"]
theorem sc__law_vial_of : FnScope n__law_vial_of p__law_vial_of (defScope s__law_vial_of) := ⟨rfl, rfl, rfl, by decide +kernel, rfl, by decide +kernel, by decide +kernel⟩
abbrev s__law_drop : Stmt := topS 42
abbrev n__law_drop : List Str := ["_law_vial", "_law_many", "_law_found", "_law_wide"]
abbrev p__law_drop : List Str := ["_law_vial", "_law_many"]
theorem sc__law_drop : FnScope n__law_drop p__law_drop (defScope s__law_drop) := ⟨rfl, rfl, rfl, by decide +kernel, rfl, by decide +kernel, by decide +kernel⟩
abbrev s__law_do : Stmt := topS 44
abbrev n__law_do : List Str := ["_law_desk", "_law_many", "_law_bad", "_law_turn"]
abbrev p__law_do : List Str := ["_law_desk", "_law_many", "_law_bad"]
theorem sc__law_do : FnScope n__law_do p__law_do (defScope s__law_do) := ⟨rfl, rfl, rfl, by decide +kernel, rfl, by decide +kernel, by decide +kernel⟩
abbrev s__law_nested : Stmt := topS 45
abbrev n__law_nested : List Str := ["_law_desk", "_law_many", "_law_bad"]
abbrev p__law_nested : List Str := ["_law_desk", "_law_many", "_law_bad"]
theorem sc__law_nested : FnScope n__law_nested p__law_nested (defScope s__law_nested) := ⟨rfl, rfl, rfl, by decide +kernel, rfl, by decide +kernel, by decide +kernel⟩
abbrev s__law_failing : Stmt := topS 46
abbrev n__law_failing : List Str := ["_law_desk"]
abbrev p__law_failing : List Str := ["_law_desk"]
theorem sc__law_failing : FnScope n__law_failing p__law_failing (defScope s__law_failing) := ⟨rfl, rfl, rfl, by decide +kernel, rfl, by decide +kernel, by decide +kernel⟩
abbrev s__law_failed_right : Stmt := topS 47
abbrev n__law_failed_right : List Str := ["_law_desk", "_law_twin"]
abbrev p__law_failed_right : List Str := ["_law_desk", "_law_twin"]
theorem sc__law_failed_right : FnScope n__law_failed_right p__law_failed_right (defScope s__law_failed_right) := ⟨rfl, rfl, rfl, by decide +kernel, rfl, by decide +kernel, by decide +kernel⟩
abbrev s__law_ended : Stmt := topS 48
abbrev n__law_ended : List Str := ["_law_desk", "_law_many", "_law_bad", "_law_found", "_law_action", "_law_word_here"]
abbrev p__law_ended : List Str := ["_law_desk", "_law_many", "_law_bad"]
theorem sc__law_ended : FnScope n__law_ended p__law_ended (defScope s__law_ended) := ⟨rfl, rfl, rfl, by decide +kernel, rfl, by decide +kernel, by decide +kernel⟩
abbrev s__law_back : Stmt := topS 49
abbrev n__law_back : List Str := ["_law_desk", "_law_many", "_law_turn", "_law_found", "_law_word_here"]
abbrev p__law_back : List Str := ["_law_desk"]
theorem sc__law_back : FnScope n__law_back p__law_back (defScope s__law_back) := ⟨rfl, rfl, rfl, by decide +kernel, rfl, by decide +kernel, by decide +kernel⟩
abbrev s_law : Stmt := topS 50
abbrev n_law : List Str := ["_law_script", "_law_k", "_law_vial", "_law_runs", "_law_pieces", "_law_many", "_law_desk", "_law_twin", "_law_bad", "_law_due"]
abbrev p_law : List Str := ["_law_script"]
theorem sc_law : FnScope n_law p_law (defScope s_law) := ⟨rfl, rfl, rfl, by decide +kernel, rfl, by decide +kernel, by decide +kernel⟩
abbrev s_Desk___init__ : Stmt := dS 1
abbrev n_Desk___init__ : List Str := ["self", "runs", "pieces"]
abbrev p_Desk___init__ : List Str := ["self", "runs", "pieces"]
theorem sc_Desk___init__ : FnScope n_Desk___init__ p_Desk___init__ (defScope s_Desk___init__) := ⟨rfl, rfl, rfl, by decide +kernel, rfl, by decide +kernel, by decide +kernel⟩
abbrev s_Desk_book : Stmt := dS 2
abbrev n_Desk_book : List Str := ["self"]
abbrev p_Desk_book : List Str := ["self"]
theorem sc_Desk_book : FnScope n_Desk_book p_Desk_book (defScope s_Desk_book) := ⟨rfl, rfl, rfl, by decide +kernel, rfl, by decide +kernel, by decide +kernel⟩
abbrev s_Desk_after : Stmt := dS 4
abbrev n_Desk_after : List Str := ["self", "state", "telling", "later", "one"]
abbrev p_Desk_after : List Str := ["self", "state", "telling"]
theorem sc_Desk_after : FnScope n_Desk_after p_Desk_after (defScope s_Desk_after) := ⟨rfl, rfl, rfl, by decide +kernel, rfl, by decide +kernel, by decide +kernel⟩
abbrev s_Desk_tell : Stmt := dS 5
abbrev n_Desk_tell : List Str := ["self", "items", "later"]
abbrev p_Desk_tell : List Str := ["self", "items"]
theorem sc_Desk_tell : FnScope n_Desk_tell p_Desk_tell (defScope s_Desk_tell) := ⟨rfl, rfl, rfl, by decide +kernel, rfl, by decide +kernel, by decide +kernel⟩
abbrev s_Desk___iadd__ : Stmt := dS 6
abbrev n_Desk___iadd__ : List Str := ["self", "tellings", "one", "later"]
abbrev p_Desk___iadd__ : List Str := ["self", "tellings"]
theorem sc_Desk___iadd__ : FnScope n_Desk___iadd__ p_Desk___iadd__ (defScope s_Desk___iadd__) := ⟨rfl, rfl, rfl, by decide +kernel, rfl, by decide +kernel, by decide +kernel⟩
abbrev s_Desk_forget : Stmt := dS 7
abbrev n_Desk_forget : List Str := ["self", "index", "found"]
abbrev p_Desk_forget : List Str := ["self", "index"]
theorem sc_Desk_forget : FnScope n_Desk_forget p_Desk_forget (defScope s_Desk_forget) := ⟨rfl, rfl, rfl, by decide +kernel, rfl, by decide +kernel, by decide +kernel⟩
abbrev s_Desk_undo : Stmt := dS 8
abbrev n_Desk_undo : List Str := ["self"]
abbrev p_Desk_undo : List Str := ["self"]
theorem sc_Desk_undo : FnScope n_Desk_undo p_Desk_undo (defScope s_Desk_undo) := ⟨rfl, rfl, rfl, by decide +kernel, rfl, by decide +kernel, by decide +kernel⟩
abbrev s_Desk_attempt : Stmt := dS 9
abbrev n_Desk_attempt : List Str := ["self", "action", "now", "past", "done", "found"]
abbrev p_Desk_attempt : List Str := ["self", "action"]
theorem sc_Desk_attempt : FnScope n_Desk_attempt p_Desk_attempt (defScope s_Desk_attempt) := ⟨rfl, rfl, rfl, by decide +kernel, rfl, by decide +kernel, by decide +kernel⟩
abbrev s_Desk___len__ : Stmt := dS 14
abbrev n_Desk___len__ : List Str := ["self"]
abbrev p_Desk___len__ : List Str := ["self"]
theorem sc_Desk___len__ : FnScope n_Desk___len__ p_Desk___len__ (defScope s_Desk___len__) := ⟨rfl, rfl, rfl, by decide +kernel, rfl, by decide +kernel, by decide +kernel⟩
abbrev s_Desk___eq__ : Stmt := dS 17
abbrev n_Desk___eq__ : List Str := ["self", "other"]
abbrev p_Desk___eq__ : List Str := ["self", "other"]
theorem sc_Desk___eq__ : FnScope n_Desk___eq__ p_Desk___eq__ (defScope s_Desk___eq__) := ⟨rfl, rfl, rfl, by decide +kernel, rfl, by decide +kernel, by decide +kernel⟩
structure Bl (mg : Str → Option Value) : Prop where
  «isinstance» : mg "isinstance" = none
  «int» : mg "int" = none
  «bool» : mg "bool" = none
  «str» : mg "str" = none
  «tuple» : mg "tuple" = none
  «list» : mg "list" = none
  «len» : mg "len" = none
  «sum» : mg "sum" = none
  «min» : mg "min" = none
  «max» : mg "max" = none
  «abs» : mg "abs" = none
  «range» : mg "range" = none
  MOST_BESTS : GInt mg "MOST_BESTS" 3
  LONG : GInt mg "LONG" 1000000
end
end Z

namespace Z
open PySem PySem.Spec PyProof.Rows L2 DL
section
variable {P : Program} {w : World} {K : PySem.W.Frag} {mg : Str → Option Value} {base : Heap}
/-! ## the program -/
def isI (d : D) (lo hi : Int) : Bool := match d with
  | .int i => decide (lo ≤ i) && decide (i ≤ hi)
  | _ => false
/-- a datum whose class isinstance tells -/
def plain : D → Bool
  | .ref _ => false
  | .scr _ => false
  | .lam _ _ _ => false
  | _ => true
def m_is_int : FM
  | [d, .int lo, .int hi], none => if plain d then .ok (.bl (isI d lo hi)) none else .stuck
  | _, _ => .stuck
theorem ok_is_int (B : Bl mg) (Th : There K mg "is_int" s_is_int p_is_int) : Has P w K mg base 1 "is_int" p_is_int m_is_int :=
  has_of Th sc_is_int fun f cdv A outer s H E hr tk hp => ⟨_, (dss_one (ds_ret (de_and (de_isi "int" B.isinstance B.int PyProof.Rows.boot_int (de_v 0)) (de_and (de_not (de_isi "bool" B.isinstance B.bool PyProof.Rows.boot_bool (de_v 0))) (de_one (de_chain (de_v 1) (chv_link od_le (de_v 0) (chv_last od_le (de_v 2))))))))), fun ds v hm => by
    unfold m_is_int at hm ⊢
    split at hm
    · rename_i d lo hi
      cases d <;> simp [plain] at hm ⊢
      all_goals simp [isI]
      rename_i i
      by_cases h : lo ≤ i <;> simp [h]
    · exact absurd rfl hm⟩
theorem cp_is_int {d : D} {lo hi : Int} {s : S} (h : plain d = true) : callP m_is_int 3 [d, .int lo, .int hi] s = .ok (.bl (isI d lo hi)) s := by
  simp [callP, m_is_int, h]
theorem plain_okd {n : Nat} {d : D} (h : okd n d = true) : plain d = true := by cases d <;> first | rfl | (cases n <;> simp [okd] at h)
theorem okd_str {n : Nat} {x : Str} (h : okd n (.str x) = true) : PyData.strOk x = true := by cases n <;> simpa [okd] using h
theorem okd_items {n : Nat} {xs : List D} (h : okd (n + 1) (.tup xs) = true) : ∀ x ∈ xs, okd n x = true := by simpa [okd] using h
theorem ok_best : PyData.strOk "best" = true := by decide +kernel
theorem ok_span : PyData.strOk "span" = true := by decide +kernel
theorem ok_gap : PyData.strOk "gap" = true := by decide +kernel
theorem sb_ne : ("span" == ("best" : Str)) = false := by decide +kernel
theorem gb_ne : ("gap" == ("best" : Str)) = false := by decide +kernel
theorem gs_ne : ("gap" == ("span" : Str)) = false := by decide +kernel
def gtI (a b : D) (hi : Int) : Bool := match a with
  | .int i => isI b (i + 1) hi
  | _ => false
def geI (a b : D) (hi : Int) : Bool := match a with
  | .int i => isI b i hi
  | _ => false
def neI (a b : D) : Bool := match a, b with
  | .int i, .int j => !(i == j)
  | _, _ => false
def tellsB (runs pieces : Int) (d : D) : Bool := match d with
  | .tup [.str k, a, b, c] => k == "best" && (isI a 0 (pieces - 1) && (gtI a b pieces && isI c 1 1000000))
  | .tup [.str k, r, x, y, l, h] => !(k == "best") && (isI r 0 (runs - 1) && (if k == "span" then isI x 0 (pieces - 1) && (gtI x y pieces && (isI l 0 1000000 && geI l h 1000000))
      else k == "gap" && (isI x 0 (runs - 1) && (neI r x && (isI y 1 pieces && (isI l (-1000000) 1000000 && geI l h 1000000))))))
  | _ => false
def m_tells : FM
  | [.int runs, .int pieces, d], none => if okd 60 d then .ok (.bl (tellsB runs pieces d)) none else .stuck
  | _, _ => .stuck
theorem isI_int {d : D} {lo hi : Int} (h : isI d lo hi = true) : ∃ i, d = .int i ∧ lo ≤ i ∧ i ≤ hi := by
  cases d <;> simp [isI] at h
  exact ⟨_, rfl, h⟩
theorem ok_tells (B : Bl mg) (h_is_int : Has P w K mg base 1 "is_int" p_is_int m_is_int) (Th : There K mg "tells" s_tells p_tells) : Has P w K mg base 2 "tells" p_tells m_tells :=
  has_of Th sc_tells fun f cdv A outer s H E hr tk hp => ⟨_, (dss_cons (ds_if (dt_w (dw_or (dt_not (dt_val (de_isi "tuple" B.isinstance B.tuple PyProof.Rows.boot_tuple (de_v 2)))) (dw_or (dt_cmp od_lt (de_callB cd_len B.len PySem.boot_len (da_cons (de_v 2) da_nil)) de_int (nomark _)) (dw_or1 (dt_not (dt_val (de_isi "str" B.isinstance B.str PyProof.Rows.boot_str (de_ix (de_v 2) de_int)))))))) (dss_one (ds_ret de_bl)) dss_nil)
    (dss_cons (ds_if (dt_cmp (od_eq hr) (de_ix (de_v 2) de_int) de_str (nomark _)) (dss_cons (ds_if (dt_w (dw_or (dt_cmp (od_ne hr) (de_callB cd_len B.len PySem.boot_len (da_cons (de_v 2) da_nil)) de_int (nomark _)) (dw_or (dt_not (dt_val (dc h_is_int tk (hr.mono (by decide)) (da_cons (de_ix (de_v 2) de_int) (da_cons de_int (da_cons (de_op od_sub (de_v 1) de_int) da_nil)))))) (dw_or1 (dt_not (dt_val (dc h_is_int tk (hr.mono (by decide)) (da_cons (de_ix (de_v 2) de_int) (da_cons (de_op od_add (de_ix (de_v 2) de_int) de_int) (da_cons (de_v 1) da_nil)))))))))) (dss_one (ds_ret de_bl)) dss_nil)
      (dss_one (ds_ret (dc h_is_int tk (hr.mono (by decide)) (da_cons (de_ix (de_v 2) de_int) (da_cons de_int (da_cons (dgi B.LONG) da_nil))))))) dss_nil)
    (dss_cons (ds_if (dt_w (dw_or (dt_cmp (od_ne hr) (de_callB cd_len B.len PySem.boot_len (da_cons (de_v 2) da_nil)) de_int (nomark _)) (dw_or1 (dt_not (dt_val (dc h_is_int tk (hr.mono (by decide)) (da_cons (de_ix (de_v 2) de_int) (da_cons de_int (da_cons (de_op od_sub (de_v 0) de_int) da_nil))))))))) (dss_one (ds_ret de_bl)) dss_nil)
    (dss_cons (ds_if (dt_cmp (od_eq hr) (de_ix (de_v 2) de_int) de_str (nomark _)) (dss_cons (ds_if (dt_w (dw_or (dt_not (dt_val (dc h_is_int tk (hr.mono (by decide)) (da_cons (de_ix (de_v 2) de_int) (da_cons de_int (da_cons (de_op od_sub (de_v 1) de_int) da_nil)))))) (dw_or1 (dt_not (dt_val (dc h_is_int tk (hr.mono (by decide)) (da_cons (de_ix (de_v 2) de_int) (da_cons (de_op od_add (de_ix (de_v 2) de_int) de_int) (da_cons (de_v 1) da_nil))))))))) (dss_one (ds_ret de_bl)) dss_nil)
      (dss_one (ds_ret (de_and (dc h_is_int tk (hr.mono (by decide)) (da_cons (de_ix (de_v 2) de_int) (da_cons de_int (da_cons (dgi B.LONG) da_nil)))) (de_one (dc h_is_int tk (hr.mono (by decide)) (da_cons (de_ix (de_v 2) de_int) (da_cons (de_ix (de_v 2) de_int) (da_cons (dgi B.LONG) da_nil))))))))) dss_nil)
    (dss_cons (ds_if (dt_w (dw_or (dt_cmp (od_ne hr) (de_ix (de_v 2) de_int) de_str (nomark _)) (dw_or (dt_not (dt_val (dc h_is_int tk (hr.mono (by decide)) (da_cons (de_ix (de_v 2) de_int) (da_cons de_int (da_cons (de_op od_sub (de_v 0) de_int) da_nil)))))) (dw_or1 (dt_cmp (od_eq hr) (de_ix (de_v 2) de_int) (de_ix (de_v 2) de_int) (nomark _)))))) (dss_one (ds_ret de_bl)) dss_nil)
    (dss_one (ds_ret (de_and (dc h_is_int tk (hr.mono (by decide)) (da_cons (de_ix (de_v 2) de_int) (da_cons de_int (da_cons (de_v 1) da_nil)))) (de_and (dc h_is_int tk (hr.mono (by decide)) (da_cons (de_ix (de_v 2) de_int) (da_cons (de_neg (dgi B.LONG)) (da_cons (dgi B.LONG) da_nil)))) (de_one (dc h_is_int tk (hr.mono (by decide)) (da_cons (de_ix (de_v 2) de_int) (da_cons (de_ix (de_v 2) de_int) (da_cons (dgi B.LONG) da_nil)))))))))))))), fun ds v hm => by
    unfold m_tells at hm ⊢
    split at hm
    · rename_i runs pieces d
      by_cases ho : okd 60 d = true
      · rw [if_pos ho]
        cases d with
        | tup xs =>
          have hi := okd_items ho
          rcases xs with _ | ⟨a, _ | ⟨b, _ | ⟨c, _ | ⟨e, _ | ⟨g, _ | ⟨i, _ | ⟨j, r⟩⟩⟩⟩⟩⟩⟩
          · simp [tellsB]
          · simp [tellsB]
          · simp [tellsB]
          · simp [tellsB]
          · have pa := plain_okd (hi a (by simp))
            have pb := plain_okd (hi b (by simp))
            have pc := plain_okd (hi c (by simp))
            have pe := plain_okd (hi e (by simp))
            cases a with
            | str k =>
              have sk := okd_str (hi (.str k) (by simp))
              simp [tellsB, eq_str' sk ok_best]
              by_cases hk : k = "best"
              · simp [hk, cp_is_int pb, cp_is_int pc, cp_is_int pe]
                by_cases h1 : isI b 0 (pieces - 1) = true
                · obtain ⟨z, rfl, _⟩ := isI_int h1
                  simp [h1, gtI, cp_is_int pc]
                  by_cases h2 : isI c (z + 1) pieces = true
                  · simp [h2, cp_is_int pe]
                  · simp [h2]
                · simp [h1]
              · simp [hk]
            | ref _ => simp [plain] at pa
            | scr _ => simp [plain] at pa
            | lam _ _ _ => simp [plain] at pa
            | _ => simp [tellsB]
          · have pa := plain_okd (hi a (by simp))
            cases a with
            | str k =>
              have sk := okd_str (hi (.str k) (by simp))
              simp [tellsB, eq_str' sk ok_best]
              by_cases hk : k = "best" <;> simp [hk]
            | ref _ => simp [plain] at pa
            | scr _ => simp [plain] at pa
            | lam _ _ _ => simp [plain] at pa
            | _ => simp [tellsB]
          · have pa := plain_okd (hi a (by simp))
            have pb := plain_okd (hi b (by simp))
            have pc := plain_okd (hi c (by simp))
            have pe := plain_okd (hi e (by simp))
            have pg := plain_okd (hi g (by simp))
            have pi := plain_okd (hi i (by simp))
            cases a with
            | str k =>
              have sk := okd_str (hi (.str k) (by simp))
              simp [tellsB, eq_str' sk ok_best, eq_str' sk ok_span, ne_str' sk ok_gap]
              by_cases hk : k = "best"
              · simp [hk]
              · simp [hk, cp_is_int pb]
                by_cases h1 : isI b 0 (runs - 1) = true
                · obtain ⟨z, rfl, _⟩ := isI_int h1
                  simp [h1]
                  by_cases h2 : k = "span"
                  · simp [eq_str' sk ok_span, eq_true h2, cp_is_int pc]
                    by_cases h3 : isI c 0 (pieces - 1) = true
                    · obtain ⟨y, rfl, _⟩ := isI_int h3
                      simp [h3, gtI, cp_is_int pe]
                      by_cases h4 : isI e (y + 1) pieces = true
                      · simp [h4, cp_is_int pg]
                        by_cases h5 : isI g 0 1000000 = true
                        · obtain ⟨x, rfl, _⟩ := isI_int h5
                          simp [h5, geI, cp_is_int pi, hk]
                        · simp [h5]
                      · simp [h4]
                    · simp [h3]
                  · simp [eq_str' sk ok_span, h2]
                    by_cases h3 : k = "gap"
                    · simp [ne_str' sk ok_gap, eq_true h3, cp_is_int pc]
                      by_cases h4 : isI c 0 (runs - 1) = true
                      · obtain ⟨y, rfl, _⟩ := isI_int h4
                        simp [h4, neI]
                        by_cases h5 : z = y
                        · simp [h5]
                        · simp [h5, cp_is_int pe]
                          by_cases h6 : isI e 1 pieces = true
                          · simp [h6, cp_is_int pg]
                            by_cases h7 : isI g (-1000000) 1000000 = true
                            · obtain ⟨x, rfl, _⟩ := isI_int h7
                              have b1 : (k == ("best" : Str)) = false := by simpa using hk
                              have b3 : (k == ("gap" : Str)) = true := by simpa using h3
                              have b5 : (z == y) = false := by simpa using h5
                              simp [h7, geI, cp_is_int pi, b1, b3, b5]
                            · simp [h7]
                          · simp [h6]
                      · simp [h4]
                    · simp [ne_str' sk ok_gap, h3]
                · simp [h1]
            | ref _ => simp [plain] at pa
            | scr _ => simp [plain] at pa
            | lam _ _ _ => simp [plain] at pa
            | _ => simp [tellsB]
          · have pa := plain_okd (hi a (by simp))
            have hl : ∀ n : Int, n < 7 → ¬ ((r.length : Int) + 1 + 1 + 1 + 1 + 1 + 1 + 1 = n) := fun n h => by omega
            have hl4 : ¬ ((r.length : Int) + 1 + 1 + 1 + 1 + 1 + 1 + 1 < 4) := by omega
            cases a with
            | str k =>
              have sk := okd_str (hi (.str k) (by simp))
              simp [tellsB, eq_str' sk ok_best, hl4, hl 4 (by omega), hl 6 (by omega)]
              by_cases hk : k = "best" <;> simp [hk, hl 4 (by omega), hl 6 (by omega)]
            | ref _ => simp [plain] at pa
            | scr _ => simp [plain] at pa
            | lam _ _ _ => simp [plain] at pa
            | _ => simp [tellsB, hl4]
        | ref _ => simp [okd] at ho
        | scr _ => simp [okd] at ho
        | lam _ _ _ => simp [okd] at ho
        | _ => simp [tellsB]
      · exact absurd (if_neg ho) hm
    · exact absurd rfl hm⟩
theorem cp_tells {d : D} {runs pieces : Int} {s : S} (h : okd 60 d = true) : callP m_tells 3 [.int runs, .int pieces, d] s = .ok (.bl (tellsB runs pieces d)) s := by
  simp [callP, m_tells, h]
end
end Z

namespace Z
open PySem PySem.Spec PyProof.Rows L2 DL
section
variable {P : Program} {w : World} {K : PySem.W.Frag} {mg : Str → Option Value} {base : Heap}
/-! ## what is drawn -/
def VOK (v : List D) : Prop := ∃ c n : Int, v = [.int c, .int n] ∧ 0 ≤ c ∧ 0 ≤ n ∧ n ≤ 2147482621
def P_drop (m : FM) : Prop := ∀ (v : List D) (many : Int), VOK v → 1 ≤ many → many ≤ 67108864 → ∃ x v', m [.int many] (some v) = .ok (.int x) (some v') ∧ 0 ≤ x ∧ x < many ∧ VOK v'
theorem small_log {i : Int} {k : Nat} (h : i.natAbs < 2 ^ k) : i.natAbs.log2 ≤ k := by
  rcases Nat.eq_zero_or_pos i.natAbs with e | e
  · rw [e]; simp
  · exact Nat.le_of_lt ((Nat.log2_lt (by omega)).mpr h)
theorem okm {i j : Int} (h : i.natAbs < 2 ^ 100) (h2 : j.natAbs < 2 ^ 100) : okMul i j = true := by
  have := small_log h
  have := small_log h2
  unfold okMul
  exact decide_eq_true (by omega)
theorem mulI {i j : Int} (h : i.natAbs < 2 ^ 100) (h2 : j.natAbs < 2 ^ 100) : opMul (.int i) (.int j) = some (.int (i * j)) := mul_ok i j (okm h h2)
theorem divI {i j : Int} (h : 0 < j) (h2 : j.natAbs < 2 ^ 100) : opDiv (.int i) (.int j) = some (.int (i / j)) := div_pos i j h (by have := small_log h2; omega)
theorem div65777 (i : Int) : opDiv (.int i) (.int 65777) = some (.int (i / 65777)) := divI (by decide) (by decide)
theorem mul16519 (i : Int) (h : 0 ≤ i) (h2 : i ≤ 2147482621) : opMul (.int i) (.int 16519) = some (.int (i * 16519)) := mulI (by omega) (by decide)
theorem mul8192 (i : Int) (h : 0 ≤ i) (h2 : i ≤ 1000000000000) : opMul (.int i) (.int 8192) = some (.int (i * 8192)) := mulI (by omega) (by decide)
theorem modL (i j : Int) (h : 0 < j) : opMod (.int i) (.int j) = some (.int (i % j)) := mod_pos i j h
theorem ok__law_drop (B : Bl mg) (Th : There K mg "_law_drop" s__law_drop p__law_drop) : ∃ m, Has P w K mg base 1 "_law_drop" p__law_drop m ∧ P_drop m := by
  refine ⟨_, has_any Th sc__law_drop fun f cdv A outer s H E hr tk hp => (dss_cons (ds_if (dt_cmp od_gt (de_ixr 0 de_int) de_int (nomark _)) (dss_cons (ds_set 2 sc__law_drop.nd (de_op od_mod (de_callT cd_int B.int PyProof.Rows.boot_int (da_cons (de_ixr 0 de_int) da_nil)) (de_v 1)))
      (dss_cons (ds_setr 0 (de_op od_div (de_ixr 0 de_int) (de_v 1)) de_int)
      (dss_one (ds_ret (de_v 2))))) dss_nil)
    (dss_cons (ds_asg (de_tup (da_cons de_int (da_cons de_int da_nil))) (dg_tup (n := 2) rfl (dgs_cons (dg_v 2 sc__law_drop.nd) (dgs_cons (dg_v 3 sc__law_drop.nd) dgs_nil))))
    (dss_cons (ds_while 3 hp (dt_w (dw_or (dt_cmp od_lt (de_v 3) (de_v 1) (nomark _)) (dw_or1 (dt_cmp (od_eq hr) (de_v 3) de_int (nomark _))))) (dss_cons (ds_setr 0 (de_op od_mod (de_callT cd_int B.int PyProof.Rows.boot_int (da_cons (de_op od_add (de_op od_mul (de_ixr 0 de_int) de_int) de_int) da_nil)) de_int) de_int)
      (dss_cons (ds_set 2 sc__law_drop.nd (de_op od_add (de_op od_mul (de_v 2) de_int) (de_op od_mod (de_callT cd_int B.int PyProof.Rows.boot_int (da_cons (de_op od_div (de_ixr 0 de_int) de_int) da_nil)) de_int)))
      (dss_one (ds_set 3 sc__law_drop.nd (de_op od_mul (de_v 3) de_int))))))
    (dss_one (ds_ret (de_op od_mod (de_callT cd_int B.int PyProof.Rows.boot_int (da_cons (de_v 2) da_nil)) (de_v 1))))))), ?_⟩
  rintro v many ⟨c, n, rfl, c0, n0, n1⟩ h1 h2
  have hp : 0 < many := by omega
  by_cases hc : 0 < c
  · refine ⟨c % many, [.int (c / many), .int n], ?_, Int.emod_nonneg _ (by omega), Int.emod_lt_of_pos _ hp, c / many, n, rfl, Int.ediv_nonneg c0 (by omega), n0, n1⟩
    simp [ixR, hc, mod_pos _ _ hp, divI (i := c) hp (by omega), setR, ixN]
  · have b1 : 0 ≤ (n * 16519 + 149) % 2147482621 := Int.emod_nonneg _ (by decide)
    have b2 : (n * 16519 + 149) % 2147482621 < 2147482621 := Int.emod_lt_of_pos _ (by decide)
    have b3 : (n * 16519 + 149) % 2147482621 ≤ 2147482621 := by omega
    have b4 : 0 ≤ ((n * 16519 + 149) % 2147482621 * 16519 + 149) % 2147482621 := Int.emod_nonneg _ (by decide)
    have b5 : ((n * 16519 + 149) % 2147482621 * 16519 + 149) % 2147482621 < 2147482621 := Int.emod_lt_of_pos _ (by decide)
    have b6 : 0 ≤ (n * 16519 + 149) % 2147482621 / 65777 % 8192 := Int.emod_nonneg _ (by decide)
    have b7 : (n * 16519 + 149) % 2147482621 / 65777 % 8192 ≤ 1000000000000 := by
      have := Int.emod_lt_of_pos ((n * 16519 + 149) % 2147482621 / 65777) (show (0 : Int) < 8192 by decide)
      omega
    by_cases hm : many ≤ 8192
    · have hm' : ¬ (8192 < many) := by omega
      by_cases hm2 : 1 < many
      all_goals
        simp [ixR, hc, unT, whl3, whl2, whl1, whlK_true, whlK_false, mul16519 n n0 n1, modL, setR, ixN, mul8192, div65777, hm', hm2, mod_pos _ _ hp]
        exact ⟨_, _, ⟨rfl, rfl⟩, Int.emod_nonneg _ (by omega), Int.emod_lt_of_pos _ hp, _, _, rfl, c0, b1, b3⟩
    · have hm' : 8192 < many := by omega
      have hm2 : 1 < many := by omega
      have hm3 : ¬ (67108864 < many) := by omega
      simp [ixR, hc, unT, whl3, whl2, whl1, whlK_true, whlK_false, mul16519 n n0 n1, modL, setR, ixN, mul8192, div65777, hm', hm2, hm3, mod_pos _ _ hp, mul16519 _ b1 b3, mul8192 _ b6 b7]
      exact ⟨_, _, ⟨rfl, rfl⟩, Int.emod_nonneg _ (by omega), Int.emod_lt_of_pos _ hp, _, _, rfl, c0, b4, by omega⟩
end
end Z

namespace Z
open PySem PySem.Spec PyProof.Rows L2 DL
section
variable {P : Program} {w : World} {K : PySem.W.Frag} {mg : Str → Option Value} {base : Heap}
theorem e_bb : opEq (.str "best") (.str "best") = some (.bl true) := by rw [eq_str' ok_best ok_best]; simp
theorem e_sb : opEq (.str "span") (.str "best") = some (.bl false) := by rw [eq_str' ok_span ok_best, sb_ne]
theorem e_gb : opEq (.str "gap") (.str "best") = some (.bl false) := by rw [eq_str' ok_gap ok_best, gb_ne]
theorem e_ss : opEq (.str "span") (.str "span") = some (.bl true) := by rw [eq_str' ok_span ok_span]; simp
theorem e_gs : opEq (.str "gap") (.str "span") = some (.bl false) := by rw [eq_str' ok_gap ok_span, gs_ne]
def P_vial (m : FM) : Prop := ∀ (ns : List Int) (k : Int), 0 ≤ k → k ≤ 8 → ∃ v, m [.scr ns, .int k] none = .own v none ∧ VOK v
def T60 : Int := 10 ^ 60
def T120 : Int := 10 ^ 120
def T180 : Int := 10 ^ 180
def T240 : Int := 10 ^ 240
theorem p60 : opPow (.int 10) (.int 60) = some (.int T60) := by rw [pow_ok 10 60 (by decide)]; rfl
theorem p18 : opPow (.int 10) (.int 18) = some (.int 1000000000000000000) := by rw [pow_ok 10 18 (by decide)]; rfl
theorem m120 : opMul (.int T60) (.int T60) = some (.int T120) := by rw [mul_ok _ _ (by decide +kernel)]; rfl
theorem m180 : opMul (.int T120) (.int T60) = some (.int T180) := by rw [mul_ok _ _ (by decide +kernel)]; rfl
theorem m240 : opMul (.int T180) (.int T60) = some (.int T240) := by rw [mul_ok _ _ (by decide +kernel)]; rfl
theorem md240 (i : Int) : opMod (.int i) (.int T240) = some (.int (i % T240)) := mod_pos i _ (by decide +kernel)
theorem md_m (i : Int) : opMod (.int i) (.int 1000313) = some (.int (i % 1000313)) := mod_pos i _ (by decide +kernel)
theorem md_p (i : Int) : opMod (.int i) (.int 2147482621) = some (.int (i % 2147482621)) := mod_pos i _ (by decide +kernel)
theorem ok__law_vial_of (B : Bl mg) (Th : There K mg "_law_vial_of" s__law_vial_of p__law_vial_of) : ∃ m, Has P w K mg base 1 "_law_vial_of" p__law_vial_of m ∧ P_vial m := by
  refine ⟨_, has_any Th sc__law_vial_of fun f cdv A outer s H E hr tk hp => (dss_cons (ds_set 2 sc__law_vial_of.nd (de_op od_add (de_op od_mul de_int (de_v 1)) de_int))
    (dss_cons (ds_if (dt_cmp od_lt (de_v 1) (de_callB cd_len B.len PySem.boot_len (da_cons (de_v 0) da_nil)) (nomark _)) (dss_one (ds_set 2 sc__law_vial_of.nd (de_op od_mod (de_callB cd_abs B.abs PyProof.Rows.boot_abs (da_cons (de_callT cd_int B.int PyProof.Rows.boot_int (da_cons (de_ix (de_v 0) (de_v 1)) da_nil)) da_nil)) (de_op od_mul (de_op od_mul (de_op od_mul (de_op od_pow de_int de_int) (de_op od_pow de_int de_int)) (de_op od_pow de_int de_int)) (de_op od_pow de_int de_int))))) (dss_one (ds_if (dt_cmp od_gt (de_callB cd_len B.len PySem.boot_len (da_cons (de_v 0) da_nil)) de_int (nomark _)) (dss_one (ds_set 2 sc__law_vial_of.nd (de_op od_add (de_v 2) (de_op od_mod (de_callB cd_abs B.abs PyProof.Rows.boot_abs (da_cons (de_callT cd_int B.int PyProof.Rows.boot_int (da_cons (de_ix (de_v 0) de_int) da_nil)) da_nil)) de_int)))) dss_nil)))
    (dss_one (ds_retO (da_cons (de_if (dt_cmp od_ge (de_v 2) (de_op od_pow de_int de_int) (nomark _)) (de_v 2) de_int) (da_cons (de_op od_add (de_op od_mod (de_callT cd_int B.int PyProof.Rows.boot_int (da_cons (de_op od_add (de_op od_add (de_op od_mul (de_op od_mod (de_v 2) de_int) de_int) (de_op od_mul de_int (de_v 1))) de_int) da_nil)) de_int) de_int) da_nil)))))), ?_⟩
  intro ns k k0 k1
  have e35 : opMul (.int 35023) (.int k) = some (.int (35023 * k)) := mulI (by decide) (by omega)
  have e137 : opMul (.int 137) (.int k) = some (.int (137 * k)) := mulI (by decide) (by omega)
  have e47 : ∀ c : Int, opMul (.int (c % 2147482621)) (.int 47) = some (.int (c % 2147482621 * 47)) := fun c => mulI (by omega) (by decide)
  have vok : ∀ c : Int, 0 ≤ c → VOK [.int c, .int ((c % 2147482621 * 47 + 137 * k + 83) % 2147482621 + 1)] ∧ VOK [.int 0, .int ((c % 2147482621 * 47 + 137 * k + 83) % 2147482621 + 1)] := fun c hc =>
    ⟨⟨_, _, rfl, by omega, by omega, by omega⟩, _, _, rfl, by omega, by omega, by omega⟩
  have s2 : 2 ≤ sizeLine := by decide +kernel
  by_cases h1 : k < ns.length
  · have hl : k.toNat < ns.length := by omega
    have hx : ns[k.toNat]? = some ns[k.toNat] := List.getElem?_eq_getElem hl
    generalize ns[k.toNat] = x at hx
    have c0 : 0 ≤ (if x < 0 then -x else x) % T240 := Int.emod_nonneg _ (by decide +kernel)
    generalize hc : (if x < 0 then -x else x) % T240 = c at c0
    by_cases h3 : (1000000000000000000 : Int) ≤ c
    · refine ⟨_, ?_, (vok c c0).1⟩
      simp [e35, h1, p60, p18, m120, m180, m240, DL.at_of _ _ k0, hx, md240, hc, md_p, e47, e137, h3, s2]
    · refine ⟨_, ?_, (vok c c0).2⟩
      simp [e35, h1, p60, p18, m120, m180, m240, DL.at_of _ _ k0, hx, md240, hc, md_p, e47, e137, h3, s2]
  · by_cases h2 : 0 < ns.length
    · obtain ⟨x, hx⟩ : ∃ x, ns[0]'h2 = x := ⟨_, rfl⟩
      have x0 : 0 ≤ (if x < 0 then -x else x) % 1000313 ∧ (if x < 0 then -x else x) % 1000313 < 1000313 := by omega
      have c0 : 0 ≤ 35023 * k + 71 + (if x < 0 then -x else x) % 1000313 := by omega
      have c1 : 35023 * k + 71 + (if x < 0 then -x else x) % 1000313 ≤ 9999999 := by omega
      have h3 : ¬ (1000000000000000000 : Int) ≤ 35023 * k + 71 + (if x < 0 then -x else x) % 1000313 := by omega
      refine ⟨_, ?_, (vok _ c0).2⟩
      simp [e35, h1, h2, p18, hx, md_m, md_p, e47, e137, h3, s2]
    · refine ⟨_, ?_, (vok (35023 * k + 71) (by omega)).2⟩
      have h3 : ¬ (1000000000000000000 : Int) ≤ 35023 * k + 71 := by omega
      simp [e35, h1, h2, p18, md_p, e47, e137, h3, s2]
end
end Z

namespace Z
open PySem PySem.Spec PyProof.Rows L2 DL
section
variable {P : Program} {w : World} {K : PySem.W.Frag} {mg : Str → Option Value} {base : Heap}
/-! ## a table of rows in the heap -/
def gv : Option Int → V
  | none => .non
  | some i => .int i
def gd : Option Int → D
  | none => .non
  | some i => .int i
def gridD (g : FW.G) : D := .lst (g.map fun r => .lst (r.map gd))
theorem ixN_n {n j : Nat} (h : j < n) : ixN n (j : Int) = some j := by
  unfold ixN
  rw [if_pos (by omega), if_pos (by omega)]
  simp
structure GI (H0 : Hp) (a : Addr) (as : List Addr) (g : FW.G) (H : Hp) : Prop where
  old : Same H0 H
  na : H0 a = none
  nas : ∀ b ∈ as, H0 b = none
  nd : (a :: as).Nodup
  tb : H a = some (.lst (as.map V.ref))
  len : as.length = g.length
  rows : ∀ (i : Nat) b r, as[i]? = some b → g[i]? = some r → H b = some (.lst (r.map gv))
section
variable {H0 H : Hp} {a : Addr} {as : List Addr} {g : FW.G} {n : Nat}
theorem GI.get (h : GI H0 a as g H) (s : FW.Sq n g) {i j : Nat} (hi : i < n) (hj : j < n) : ∃ b r, as[i]? = some b ∧ g[i]? = some r ∧ (as.map V.ref)[i]? = some (.ref b) ∧ H b = some (.lst (r.map gv)) ∧ (r.map gv)[j]? = some (gv (FW.gat g i j)) ∧ r.length = n := by
  have h1 : i < g.length := by rw [s.len]; exact hi
  have h2 : i < as.length := by rw [h.len]; exact h1
  have e1 := List.getElem?_eq_getElem h1
  have e2 := List.getElem?_eq_getElem h2
  have hr := s.row i _ e1
  have h3 : j < g[i].length := by rw [hr]; exact hj
  refine ⟨as[i], g[i], e2, e1, by rw [List.getElem?_map, e2]; rfl, h.rows i _ _ e2 e1, ?_, hr⟩
  rw [List.getElem?_map, List.getElem?_eq_getElem h3]
  unfold FW.gat
  rw [e1]
  dsimp only
  rw [List.getElem?_eq_getElem h3]
  rfl
theorem GI.put (h : GI H0 a as g H) (s : FW.Sq n g) {i j : Nat} (hi : i < n) (hj : j < n) {b : Addr} {r : List (Option Int)} (eb : as[i]? = some b) (er : g[i]? = some r) (w : Int) :
    GI H0 a as (FW.gput g i j w) (upd H b (.lst ((r.map gv).set j (.int w)))) := by
  have mb : b ∈ as := List.mem_of_getElem? eb
  have nb := h.nas b mb
  have nd := List.nodup_cons.mp h.nd
  have nab : a ≠ b := fun z => nd.1 (by rw [z]; exact mb)
  have hl : i < g.length := by rw [s.len]; exact hi
  have eg : FW.gput g i j w = g.set i (r.set j (some w)) := by unfold FW.gput; rw [er]
  refine ⟨fun c o q => ?_, h.na, h.nas, h.nd, by rw [upd_ne nab]; exact h.tb, by rw [eg, List.length_set]; exact h.len, fun k c q ec eq => ?_⟩
  · have : c ≠ b := fun z => by rw [z, nb] at q; cases q
    rw [upd_ne this]
    exact h.old c o q
  · rw [eg] at eq
    by_cases hk : k = i
    · subst hk
      rw [eb] at ec
      cases ec
      rw [List.getElem?_set_self hl] at eq
      cases eq
      rw [upd_same, List.map_set]
      rfl
    · rw [List.getElem?_set_ne (Ne.symm hk)] at eq
      have ne : c ≠ b := fun z => by
        subst z
        have hk1 : k < as.length := by
          rcases List.getElem?_eq_some_iff.mp ec with ⟨y, _⟩
          exact y
        exact hk ((List.getElem?_inj hk1 nd.2).mp (ec.trans eb.symm))
      rw [upd_ne ne]
      exact h.rows k c q ec eq
/-- what stays of the slots -/
structure Keep4 (σ0 : L2.St) (a : Addr) (n : Nat) (σ : L2.St) : Prop where
  len : σ.length = σ0.length
  s0 : σ[0]? = σ0[0]?
  s1 : σ[1]? = σ0[1]?
  s2 : σ[2]? = some (some (.int (n : Int)))
  s3 : σ[3]? = some (some (.ref a))
theorem Keep4.set {σ0 σ : L2.St} (h : Keep4 σ0 a n σ) {k : Nat} (hk : 4 ≤ k) (v : Option V) : Keep4 σ0 a n (σ.set k v) :=
  ⟨by rw [List.length_set]; exact h.len, by rw [st_put_ne (by omega)]; exact h.s0, by rw [st_put_ne (by omega)]; exact h.s1, by rw [st_put_ne (by omega)]; exact h.s2, by rw [st_put_ne (by omega)]; exact h.s3⟩
/-- table[x][y] -/
abbrev tRd (K : PySem.W.Frag) (x y : Nat) : TE := tOp (rIxL K) (tOp (rIxL K) (tVar 3) (tVar x)) (tVar y)
theorem rd_ok {K : PySem.W.Frag} {σ0 σ : L2.St} {x y i j : Nat} {Q : VK} (h : GI H0 a as g H) (s : FW.Sq n g) (k : Keep4 σ0 a n σ) (hi : i < n) (hj : j < n) (ex : σ[x]? = some (some (.int (i : Int)))) (ey : σ[y]? = some (some (.int (j : Int))))
    (q : Q (gv (FW.gat g i j)) H) : tRd K x y σ H Q := by
  obtain ⟨b, r, _, _, h1, h2, h3, _⟩ := h.get s hi hj
  exact ⟨_, k.s3, _, ex, a, _, _, _, rfl, rfl, SqL.of h.tb, atI_nat h1, _, ey, b, _, _, _, rfl, rfl, SqL.of h2, atI_nat h3, q⟩
/-- table[x][y] = z -/
theorem wr_ok {K : PySem.W.Frag} {σ0 σ : L2.St} {x y z i j : Nat} {w : Int} {D : Ends} (h : GI H0 a as g H) (s : FW.Sq n g) (k : Keep4 σ0 a n σ) (hi : i < n) (hj : j < n) (ex : σ[x]? = some (some (.int (i : Int)))) (ey : σ[y]? = some (some (.int (j : Int)))) (ez : σ[z]? = some (some (.int w)))
    (q : ∀ H', GI H0 a as (FW.gput g i j w) H' → D.nx σ H') : tAsg (tVar z) (gSub (tOp (rIxL K) (tVar 3) (tVar x)) (tVar y) rSetL) D σ H := by
  obtain ⟨b, r, e1, e2, h1, h2, h3, hl⟩ := h.get s hi hj
  exact ⟨_, ez, _, k.s3, _, ex, a, _, _, _, rfl, rfl, SqL.of h.tb, atI_nat h1, _, ey, b, _, _, j, rfl, rfl, h2, ixN_n (by rw [List.length_map, hl]; exact hj), q _ (h.put s hi hj e1 e2 w)⟩
/-- if table[x][y] is None or z < table[x][y]: table[x][y] = z -/
abbrev tLow (K : PySem.W.Frag) (x y z : Nat) : TS :=
  tIfS (tOr (tTest (tOp (fun x y H Q => y = .non ∧ Q (.bl (decide (x = .non))) H) (tRd K x y) (tC .non))) (tTest (tOp (rI0 fun i j => .bl (decide (i < j))) (tVar z) (tRd K x y))))
    (tAsg (tVar z) (gSub (tOp (rIxL K) (tVar 3) (tVar x)) (tVar y) rSetL)) tNext
theorem low_ok {K : PySem.W.Frag} {σ0 σ : L2.St} {x y z i j : Nat} {w : Int} {D : Ends} (h : GI H0 a as g H) (s : FW.Sq n g) (k : Keep4 σ0 a n σ) (hi : i < n) (hj : j < n) (ex : σ[x]? = some (some (.int (i : Int)))) (ey : σ[y]? = some (some (.int (j : Int)))) (ez : σ[z]? = some (some (.int w)))
    (q : ∀ H', GI H0 a as (FW.low g i j w) H' → D.nx σ H') : tLow K x y z D σ H := by
  refine rd_ok h s k hi hj ex ey ⟨rfl, _, rfl, ?_⟩
  unfold FW.low at q
  cases e : FW.gat g i j with
  | none =>
    rw [e] at q
    rw [if_pos (by simp [gv])]
    exact wr_ok h s k hi hj ex ey ez q
  | some v =>
    rw [e] at q
    dsimp only at q
    rw [if_neg (by simp [gv])]
    refine ⟨_, ez, rd_ok h s k hi hj ex ey ⟨w, v, rfl, by rw [e]; rfl, _, rfl, ?_⟩⟩
    by_cases lt : w < v
    · rw [if_pos lt] at q
      rw [if_pos (decide_eq_true lt)]
      exact wr_ok h s k hi hj ex ey ez q
    · rw [if_neg lt] at q
      rw [if_neg (by simpa using lt)]
      exact q H h
end
end
end Z

namespace Z
open PySem PySem.Spec PyProof.Rows L2 DL
section
variable {P : Program} {w : World} {K : PySem.W.Frag} {mg : Str → Option Value} {base : Heap}
/-! ## the passes over the table, statement by statement -/
abbrev iMany : TI := iRng1 (tCons (tVar 2) tNil)
abbrev rIsNo : R2 := fun x y H Q => y = .non ∧ Q (.bl (!decide (x = .non))) H
abbrev tMk : TS := tAsg (tLc iMany (gName 5) tYes (tLc iMany (gName 4) tYes (tIf (tTest (tOp rEq (tVar 5) (tVar 4))) (tC (.int 0)) (tC .non)) [4]) [5]) (gName 3)
abbrev tL3 (K : PySem.W.Frag) : TS := tFor (iList K (tVar 1)) (gTup K 3 (gCons (gName 5) (gCons (gName 4) (gCons (gName 6) gNil)))) (tLow K 5 4 6)
abbrev tL4 (K : PySem.W.Frag) : TS := tFor iMany (gName 7) (tFor iMany (gName 5) (tIfS (tTest (tOp rIsNo (tRd K 5 7) (tC .non))) (tFor iMany (gName 4)
  (tSeq (tAsg (tRd K 7 4) (gName 8)) (tIfS (tTest (tOp rIsNo (tVar 8) (tC .non))) (tSeq (tAsg (tOp (rI0 fun i j => .int (i + j)) (tRd K 5 7) (tVar 8)) (gName 9)) (tLow K 5 4 9)) tNext))) tNext))
theorem many_ok {σ : L2.St} {H : Hp} {n : Nat} {R : It → Hp → Prop} (hn : n ≤ 1000) (e : σ[2]? = some (some (.int (n : Int)))) (q : R (Itr 0 n) H) : iMany σ H R :=
  ⟨_, e, (n : Int), rfl, by omega, by omega, q⟩
theorem for_many {g : TG} {tb : TS} {D : Ends} {σ : L2.St} {H : Hp} {n : Nat} (hn : n ≤ 1000) (e : σ[2]? = some (some (.int (n : Int)))) (Pv : Nat → L2.St → Hp → Prop) (h0 : Pv 0 σ H)
    (hs : ∀ i σ H, i < n → Pv i σ H → g (.int (i : Int)) σ H fun σ2 H2 => tb { D with nx := Pv (i + 1), ct := Pv (i + 1), bk := D.nx } σ2 H2) (hd : ∀ σ H, Pv n σ H → D.nx σ H) : tFor iMany g tb D σ H := by
  unfold tFor
  exact many_ok hn e (for_range (lo := 0) (n := n) Pv h0 (fun i σ H hi p => by rw [Int.zero_add]; exact hs i σ H hi p) hd)
theorem lc_many {g : TG} {tt : TT} {te : TE} {vs : List Nat} {σ : L2.St} {H : Hp} {n : Nat} {Q : VK} (hn : n ≤ 1000) (e : σ[2]? = some (some (.int (n : Int))))
    (h : ∀ D0, H D0 = none → ∃ Pv : Nat → Hp → Prop, Pv 0 (upd H D0 (.lst [])) ∧ (∀ i H, i < n → Pv i H → g (.int (i : Int)) (wipe σ vs) H fun σ2 H2 => wipe σ2 vs = wipe σ vs ∧ tt σ2 H2 fun b H3 =>
      if b = true then te σ2 H3 fun y H4 => ∃ acc, H4 D0 = some (.lst acc) ∧ acc.length < sizeLine ∧ Pv (i + 1) (upd H4 D0 (.lst (acc ++ [y]))) else Pv (i + 1) H3) ∧ ∀ H, Pv n H → Q (.ref D0) H) : tLc iMany g tt te vs σ H Q := by
  unfold tLc
  refine many_ok hn e fun D0 hD0 => ?_
  obtain ⟨Pv, h0, hs, hd⟩ := h D0 hD0
  exact lc_range (lo := 0) (n := n) Pv h0 (fun i H hi p => by rw [Int.zero_add]; exact hs i H hi p) hd
theorem asg_ok {te : TE} {g : TG} {D : Ends} {σ : L2.St} {H : Hp} (h : te σ H fun x H1 => g x σ H1 D.nx) : tAsg te g D σ H := h
theorem yes_ok {σ : L2.St} {H : Hp} {A B : Hp → Prop} (h : A H) : tYes σ H (fun b H3 => if b = true then A H3 else B H3) := by
  show (if true = true then A H else B H)
  rw [if_pos rfl]
  exact h
theorem set_self {σ : L2.St} {k : Nat} {v : Option V} (h : k < σ.length) : (σ.set k v)[k]? = some v := List.getElem?_set_self h
theorem mk_ok {σ : L2.St} {H0 : Hp} {n : Nat} {D : Ends} (hl : σ.length = 10) (hn : n ≤ 1000) (e2 : σ[2]? = some (some (.int (n : Int)))) (q : ∀ a as H', GI H0 a as (FW.start n) H' → D.nx (σ.set 3 (some (.ref a))) H') : tMk D σ H0 := by
  have zz : ∀ k : Nat, k ≤ 1000 → k < sizeLine := fun k h => Nat.lt_of_le_of_lt h (by decide +kernel)
  refine asg_ok (lc_many hn e2 fun D0 hD0 => ⟨fun i H => ∃ as : List Addr, as.length = i ∧ Same H0 H ∧ H D0 = some (.lst (as.map .ref)) ∧ (D0 :: as).Nodup ∧ (∀ b ∈ as, H0 b = none) ∧ ∀ (k : Nat) b, as[k]? = some b → H b = some (.lst (((List.range n).map fun j => if k = j then some (0 : Int) else none).map gv)), ?_, ?_, ?_⟩)
  · exact ⟨[], rfl, fun b o e => by rw [upd_ne (ne_of_none e hD0)]; exact e, upd_same, by simp, by simp, fun k b e => by simp at e⟩
  · rintro i H hi ⟨as, h1, h2, h3, h4, h5, h6⟩
    have w2 : (wipe σ [5])[2]? = some (some (.int (n : Int))) := by rw [wipe_out (by simp)]; exact e2
    refine ⟨?_, ?_⟩
    · exact (wipe_set (σ := wipe σ [5]) (i := 5) (x := some (V.int (i : Int))) (vs := [5]) (by simp)).trans wipe_wipe
    · refine yes_ok ?_
      have lw : (wipe σ [5]).length = 10 := by rw [wipe_length]; exact hl
      generalize hw : (wipe σ [5]).set 5 (some (V.int (i : Int))) = τ
      have t5 : τ[5]? = some (some (.int (i : Int))) := by rw [← hw, set_self (by omega)]
      have t2 : τ[2]? = some (some (.int (n : Int))) := by rw [← hw, st_put_ne (by omega)]; exact w2
      have tl : τ.length = 10 := by rw [← hw, List.length_set]; exact lw
      refine lc_many hn t2 fun D1 hD1 => ?_
      have ne : D1 ≠ D0 := fun z => by rw [z, h3] at hD1; cases hD1
      refine ⟨fun j H' => H' = upd H D1 (.lst (((List.range j).map fun l => if i = l then some (0 : Int) else none).map gv)), rfl, ?_, ?_⟩
      · rintro j H' hj rfl
        refine ⟨?_, ?_⟩
        · exact (wipe_set (σ := wipe τ [4]) (i := 4) (x := some (V.int (j : Int))) (vs := [4]) (by simp)).trans wipe_wipe
        · refine yes_ok ?_
          have lw4 : (wipe τ [4]).length = 10 := by rw [wipe_length]; exact tl
          refine ⟨.int (i : Int), by rw [st_put_ne (by omega), wipe_out (by simp)]; exact t5, .int (j : Int), set_self (by omega), rfl, _, rfl, ?_⟩
          have app : ∀ x : V, x = gv (if i = j then some 0 else none) → ∃ acc, upd H D1 (.lst (((List.range j).map fun l => if i = l then some (0 : Int) else none).map gv)) D1 = some (.lst acc) ∧ acc.length < sizeLine ∧
              upd (upd H D1 (.lst (((List.range j).map fun l => if i = l then some (0 : Int) else none).map gv))) D1 (.lst (acc ++ [x])) = upd H D1 (.lst (((List.range (j + 1)).map fun l => if i = l then some (0 : Int) else none).map gv)) := fun x hx => by
            refine ⟨_, upd_same, by simp; exact zz j (by omega), ?_⟩
            rw [upd_upd, List.range_succ, hx]
            simp
          dsimp only
          by_cases ij : i = j
          · rw [if_pos (by simp [ij])]
            exact app _ (by rw [if_pos ij]; rfl)
          · rw [if_neg (by simp; omega)]
            exact app _ (by rw [if_neg ij]; rfl)
      · rintro H' rfl
        refine ⟨as.map .ref, by rw [upd_ne (Ne.symm ne)]; exact h3, by rw [List.length_map, h1]; exact zz i (by omega), as ++ [D1], by simp [h1], fun b o e => ?_, by rw [upd_same]; simp, ?_, fun b hb => ?_, fun k b e => ?_⟩
        · have n0 : b ≠ D0 := ne_of_none e hD0
          have n1 : b ≠ D1 := fun z => by
            have := h2 b o e
            rw [z, hD1] at this; cases this
          rw [upd_ne n0, upd_ne n1]
          exact h2 b o e
        · have nd := List.nodup_cons.mp h4
          have n1 : D1 ∉ as := fun z => by
            obtain ⟨k, hk, e⟩ := List.mem_iff_getElem.mp z
            have := h6 k D1 (by rw [List.getElem?_eq_getElem hk, e])
            rw [hD1] at this; cases this
          rw [List.nodup_cons]
          refine ⟨fun z => ?_, ?_⟩
          · rcases List.mem_append.mp z with z | z
            · exact nd.1 z
            · rw [List.mem_singleton] at z; exact ne z.symm
          · rw [List.nodup_append]
            refine ⟨nd.2, by simp, fun x hx y hy => ?_⟩
            rw [List.mem_singleton] at hy
            subst hy
            exact fun z => n1 (by rw [← z]; exact hx)
        · rcases List.mem_append.mp hb with z | z
          · exact h5 b z
          · rw [List.mem_singleton] at z
            subst z
            cases q0 : H0 b with
            | none => rfl
            | some o => have := h2 b o q0; rw [hD1] at this; cases this
        · have hb : b ∈ as ++ [D1] := List.mem_of_getElem? e
          have n0 : b ≠ D0 := fun z => by
            subst z
            have nd := List.nodup_cons.mp h4
            rcases List.mem_append.mp hb with y | y
            · exact nd.1 y
            · rw [List.mem_singleton] at y; exact ne y.symm
          rw [upd_ne n0]
          by_cases hk : k < as.length
          · rw [List.getElem?_append_left hk] at e
            have hb1 := h6 k b e
            have n1 : b ≠ D1 := fun z => by rw [z, hD1] at hb1; cases hb1
            rw [upd_ne n1]
            exact hb1
          · have hk2 : k = as.length := by
              rcases List.getElem?_eq_some_iff.mp e with ⟨y, _⟩
              simp at y
              omega
            subst hk2
            rw [List.getElem?_append_right (Nat.le_refl _)] at e
            simp at e
            subst e
            rw [upd_same, h1]
  · rintro H ⟨as, h1, h2, h3, h4, h5, h6⟩
    refine q D0 as H ⟨h2, hD0, h5, h4, h3, by rw [h1]; simp [FW.start], fun i b r eb er => ?_⟩
    rw [h6 i b eb]
    unfold FW.start at er
    rw [List.getElem?_map] at er
    cases z : (List.range n)[i]? with
    | none => rw [z] at er; cases er
    | some k =>
      rw [z] at er
      cases er
      have hi : i < n := by
        rcases List.getElem?_eq_some_iff.mp z with ⟨y, _⟩
        simpa using y
      rw [List.getElem?_range hi] at z
      cases z
      rfl
def enB (b : FW.Bd) : D := .tup [.int (b.1 : Int), .int (b.2.1 : Int), .int b.2.2]
theorem l3_ok {K : PySem.W.Frag} {σ0 σ : L2.St} {H0 H HP : Hp} {a b : Addr} {as : List Addr} {g : FW.G} {n : Nat} {bs : List FW.Bd} {vs : List V} {D : Ends} (h : GI H0 a as g H) (s : FW.Sq n g) (k : Keep4 σ0 a n σ) (hl : σ.length = 10) (f : FW.Fit n bs)
    (e1 : σ[1]? = some (some (.ref b))) (sub : Same HP H0) (hb : HP b = some (.lst vs)) (dv : DvA K HP vs (bs.map enB)) (q : ∀ σ' H', GI H0 a as (FW.lay bs g) H' → Keep4 σ0 a n σ' → D.nx σ' H') : tL3 K D σ H := by
  refine ⟨_, e1, b, rfl, ⟨vs, SqL.of (h.old _ _ (sub _ _ hb))⟩, ?_⟩
  refine for_list (xs := vs) (fun i σ H => GI H0 a as (FW.lay (bs.take i) g) H ∧ Keep4 σ0 a n σ ∧ σ.length = 10) ⟨h, k, hl⟩ (fun i σ H _ p => SqL.of (p.1.old _ _ (sub _ _ hb))) ?_ ?_
  · rintro i x σ H hx ⟨p, k, hl⟩
    obtain ⟨d, hd, dx⟩ := dv.get hx
    rw [List.getElem?_map] at hd
    cases eb : bs[i]? with
    | none => rw [eb] at hd; cases hd
    | some c =>
      rw [eb] at hd
      cases hd
      obtain ⟨f1, f2⟩ := f c (List.mem_of_getElem? eb)
      cases dx with
      | @tup t us _ h1 hz h2 =>
        cases h2 with
        | cons d1 r1 =>
          cases r1 with
          | cons d2 r2 =>
            cases r2 with
            | cons d3 r3 =>
              cases r3
              cases d1; cases d2; cases d3
              refine ⟨t, _, rfl, SqT.of (p.old _ _ (sub _ _ h1)), rfl, _, _, rfl, _, _, rfl, _, _, rfl, rfl, ?_⟩
              have sq := FW.lay_sq (n := n) (bs.take i) g s
              refine low_ok (w := c.2.2) p sq (((k.set (k := 5) (by omega) _).set (k := 4) (by omega) _).set (k := 6) (by omega) _) f1 f2 ?_ ?_ ?_ fun H' p' => ⟨?_, ((k.set (k := 5) (by omega) _).set (k := 4) (by omega) _).set (k := 6) (by omega) _, by simp [hl]⟩
              · rw [st_put_ne (by omega), st_put_ne (by omega), set_self (by omega)]
              · rw [st_put_ne (by omega), set_self (by simp [hl])]
              · rw [set_self (by simp [hl])]
              · have hi : i < bs.length := by
                  rcases List.getElem?_eq_some_iff.mp eb with ⟨y, _⟩
                  exact y
                have ec : bs[i] = c := by
                  rcases List.getElem?_eq_some_iff.mp eb with ⟨_, y⟩
                  exact y
                rw [List.take_succ_eq_append_getElem hi]
                unfold FW.lay at p' ⊢
                rw [List.foldl_append, ec]
                exact p'
  · rintro σ H ⟨p, k, hl⟩
    have e : vs.length = bs.length := by rw [dv.length, List.length_map]
    rw [e, List.take_length] at p
    exact q σ H p k
theorem row_none {m i n : Nat} {g : FW.G} (h : FW.gat g i m = none) : FW.rowF m i n g = g := by
  have r : ∀ k, FW.rlx m i k g = g := fun k => by unfold FW.rlx; rw [h]
  induction n with
  | zero => rfl
  | succ n ih => rw [FW.rowF_succ, ih, r]
theorem keepT (n : Nat) : FW.Keeps n (fun _ => True) := ⟨fun _ _ _ _ _ _ _ _ _ => trivial⟩
theorem l4_ok {K : PySem.W.Frag} {σ0 σ : L2.St} {H0 H : Hp} {a : Addr} {as : List Addr} {g : FW.G} {n : Nat} {D : Ends} (hn : n ≤ 1000) (h : GI H0 a as g H) (s : FW.Sq n g) (k : Keep4 σ0 a n σ) (hl : σ.length = 10)
    (q : ∀ σ' H', GI H0 a as (FW.allF n n g) H' → Keep4 σ0 a n σ' → D.nx σ' H') : tL4 K D σ H := by
  refine for_many hn k.s2 (fun m σ H => GI H0 a as (FW.allF n m g) H ∧ Keep4 σ0 a n σ ∧ σ.length = 10) ⟨h, k, hl⟩ ?_ fun σ H p => q σ H p.1 p.2.1
  rintro m σ H hm ⟨p, k, hl⟩
  have sm := (FW.allF_keep (keepT n) m g (by omega) s trivial).1
  have em : FW.allF n (m + 1) g = FW.midF m n n (FW.allF n m g) := FW.allF_succ n m g
  rw [em]
  generalize FW.allF n m g = gm at p sm
  have k7 := k.set (k := 7) (by omega) (some (.int (m : Int)))
  have l7 : (σ.set 7 (some (V.int (m : Int)))).length = 10 := by rw [List.length_set]; exact hl
  have v7 : (σ.set 7 (some (V.int (m : Int))))[7]? = some (some (.int (m : Int))) := set_self (by omega)
  unfold gName
  generalize σ.set 7 (some (V.int (m : Int))) = σ7 at k7 l7 v7
  refine for_many hn k7.s2 (fun i σ H => GI H0 a as (FW.midF m n i gm) H ∧ Keep4 σ0 a n σ ∧ σ.length = 10 ∧ σ[7]? = some (some (.int (m : Int)))) ⟨p, k7, l7, v7⟩ ?_ fun σ H p => ⟨p.1, p.2.1, p.2.2.1⟩
  rintro i σ H hi ⟨p, k, hl, v7⟩
  have si := (FW.midF_keep (keepT n) hm i gm (by omega) sm trivial).1
  have ei : FW.midF m n (i + 1) gm = FW.rowF m i n (FW.midF m n i gm) := FW.midF_succ m n i gm
  rw [ei]
  generalize FW.midF m n i gm = gi at p si
  have k5 := k.set (k := 5) (by omega) (some (.int (i : Int)))
  have l5 : (σ.set 5 (some (V.int (i : Int)))).length = 10 := by rw [List.length_set]; exact hl
  have v5 : (σ.set 5 (some (V.int (i : Int))))[5]? = some (some (.int (i : Int))) := set_self (by omega)
  have w7 : (σ.set 5 (some (V.int (i : Int))))[7]? = some (some (.int (m : Int))) := by rw [st_put_ne (by omega)]; exact v7
  generalize σ.set 5 (some (V.int (i : Int))) = σ5 at k5 l5 v5 w7
  refine rd_ok p si k5 hi hm v5 w7 ⟨rfl, _, rfl, ?_⟩
  cases e : FW.gat gi i m with
  | none =>
    rw [if_neg (by simp [gv])]
    rw [row_none e]
    exact ⟨p, k5, l5, w7⟩
  | some d0 =>
    rw [if_pos (by simp [gv])]
    refine for_many hn k5.s2 (fun j σ H => GI H0 a as (FW.rowF m i j gi) H ∧ Keep4 σ0 a n σ ∧ σ.length = 10 ∧ σ[7]? = some (some (.int (m : Int))) ∧ σ[5]? = some (some (.int (i : Int)))) ⟨p, k5, l5, w7, v5⟩ ?_ fun σ H p => ⟨p.1, p.2.1, p.2.2.1, p.2.2.2.1⟩
    rintro j σ H hj ⟨p, k, hl, v7, v5⟩
    obtain ⟨sj, lj⟩ := FW.rowF_keep (FW.keeps_le (n := n) gi) hm hi j gi (by omega) si (FW.Le.refl _)
    have ej : FW.rowF m i (j + 1) gi = FW.rlx m i j (FW.rowF m i j gi) := FW.rowF_succ m i j gi
    rw [ej]
    obtain ⟨d, ed, _⟩ := lj i m d0 e
    generalize FW.rowF m i j gi = gj at p sj ed
    have k4 := k.set (k := 4) (by omega) (some (.int (j : Int)))
    have l4 : (σ.set 4 (some (V.int (j : Int)))).length = 10 := by rw [List.length_set]; exact hl
    have v4 : (σ.set 4 (some (V.int (j : Int))))[4]? = some (some (.int (j : Int))) := set_self (by omega)
    have x7 : (σ.set 4 (some (V.int (j : Int))))[7]? = some (some (.int (m : Int))) := by rw [st_put_ne (by omega)]; exact v7
    have x5 : (σ.set 4 (some (V.int (j : Int))))[5]? = some (some (.int (i : Int))) := by rw [st_put_ne (by omega)]; exact v5
    generalize σ.set 4 (some (V.int (j : Int))) = σ4 at k4 l4 v4 x7 x5
    refine rd_ok p sj k4 hm hj x7 v4 ?_
    generalize ev : gv (FW.gat gj m j) = v8
    have k8 := k4.set (k := 8) (by omega) (some v8)
    have l8 : (σ4.set 8 (some v8)).length = 10 := by rw [List.length_set]; exact l4
    have y8 : (σ4.set 8 (some v8))[8]? = some (some v8) := set_self (by omega)
    have y7 : (σ4.set 8 (some v8))[7]? = some (some (.int (m : Int))) := by rw [st_put_ne (by omega)]; exact x7
    have y5 : (σ4.set 8 (some v8))[5]? = some (some (.int (i : Int))) := by rw [st_put_ne (by omega)]; exact x5
    have y4 : (σ4.set 8 (some v8))[4]? = some (some (.int (j : Int))) := by rw [st_put_ne (by omega)]; exact v4
    dsimp only
    generalize σ4.set 8 (some v8) = σ8 at k8 l8 y8 y7 y5 y4
    refine ⟨_, y8, rfl, _, rfl, ?_⟩
    unfold FW.rlx
    rw [ed]
    dsimp only
    cases eo : FW.gat gj m j with
    | none =>
      rw [eo] at ev
      subst ev
      rw [if_neg (by simp [gv])]
      exact ⟨p, k8, l8, y7, y5⟩
    | some w =>
      rw [eo] at ev
      subst ev
      rw [if_pos (by simp [gv])]
      refine rd_ok p sj k8 hi hm y5 y7 ⟨_, y8, d, w, by rw [ed]; rfl, rfl, ?_⟩
      have k9 := k8.set (k := 9) (by omega) (some (.int (d + w)))
      have l9 : (σ8.set 9 (some (V.int (d + w)))).length = 10 := by rw [List.length_set]; exact l8
      have z9 : (σ8.set 9 (some (V.int (d + w))))[9]? = some (some (.int (d + w))) := set_self (by omega)
      have z7 : (σ8.set 9 (some (V.int (d + w))))[7]? = some (some (.int (m : Int))) := by rw [st_put_ne (by omega)]; exact y7
      have z5 : (σ8.set 9 (some (V.int (d + w))))[5]? = some (some (.int (i : Int))) := by rw [st_put_ne (by omega)]; exact y5
      have z4 : (σ8.set 9 (some (V.int (d + w))))[4]? = some (some (.int (j : Int))) := by rw [st_put_ne (by omega)]; exact y4
      dsimp only
      generalize σ8.set 9 (some (V.int (d + w))) = σ9 at k9 l9 z9 z7 z5 z4
      exact low_ok p sj k9 hi hj z5 z4 z9 fun H' p' => ⟨p', k9, l9, z7, z5⟩
end
end Z

namespace Z
open PySem PySem.Spec PyProof.Rows L2 DL
section
variable {P : Program} {w : World} {K : PySem.W.Frag} {mg : Str → Option Value} {base : Heap}
/-! ## the passes, as one statement of the layer -/
def deB (n : Nat) : D → Option FW.Bd
  | .tup [.int i, .int j, .int w] => if 0 ≤ i ∧ i < n ∧ 0 ≤ j ∧ j < n then some (i.toNat, j.toNat, w) else none
  | _ => none
def deBs (n : Nat) : List D → Option (List FW.Bd)
  | [] => some []
  | d :: r => match deB n d with
    | none => none
    | some b => match deBs n r with
      | none => none
      | some bs => some (b :: bs)
theorem deB_en {n : Nat} {b : FW.Bd} (h : b.1 < n ∧ b.2.1 < n) : deB n (enB b) = some b := by
  obtain ⟨i, j, w⟩ := b
  show (if _ then _ else _) = _
  dsimp only at h ⊢
  rw [if_pos (by omega)]
  simp
theorem deBs_en {n : Nat} : ∀ {bs : List FW.Bd}, FW.Fit n bs → deBs n (bs.map enB) = some bs
  | [], _ => rfl
  | b :: bs, f => by
    rw [List.map_cons]
    unfold deBs
    rw [deB_en (f b List.mem_cons_self), deBs_en fun x hx => f x (List.mem_cons_of_mem _ hx)]
theorem deB_some {n : Nat} {d : D} {b : FW.Bd} (h : deB n d = some b) : d = enB b ∧ b.1 < n ∧ b.2.1 < n := by
  unfold deB at h
  split at h
  · split at h
    · rename_i i j w q
      cases h
      obtain ⟨q1, q2, q3, q4⟩ := q
      refine ⟨?_, ?_, ?_⟩
      · unfold enB
        dsimp only
        rw [Int.toNat_of_nonneg q1, Int.toNat_of_nonneg q3]
      · dsimp only; omega
      · dsimp only; omega
    · cases h
  · cases h
theorem deBs_some {n : Nat} : ∀ {ds : List D} {bs : List FW.Bd}, deBs n ds = some bs → ds = bs.map enB ∧ FW.Fit n bs
  | [], bs, h => by cases h; exact ⟨rfl, fun x hx => absurd hx List.not_mem_nil⟩
  | d :: r, bs, h => by
    unfold deBs at h
    split at h
    · cases h
    · rename_i b e1
      split at h
      · cases h
      · rename_i bs' e2
        cases h
        obtain ⟨h1, h2⟩ := deB_some e1
        obtain ⟨h3, h4⟩ := deBs_some e2
        refine ⟨by rw [h1, h3]; rfl, fun x hx => ?_⟩
        rcases List.mem_cons.mp hx with rfl | hx
        · exact h2
        · exact h4 x hx
def midS (f5 : S → T) (s : S) : T := match s with
  | ⟨[some (.val b), some (.val (.lst ds)), some (.val (.int k)), none, none, none, none, none, none, none], none⟩ =>
    if 1 ≤ k ∧ k ≤ 1000 then (match deBs k.toNat ds with
      | some bs => f5 ⟨[some (.val b), some (.val (.lst ds)), some (.val (.int k)), some (.val (gridD (FW.tab k.toNat bs))), none, none, none, none, none, none], none⟩
      | none => .stuck) else .stuck
  | _ => .stuck
theorem grid_dv {K : PySem.W.Frag} {HP : Hp} {n : Nat} {g : FW.G} {a : Addr} {as : List Addr} (hn : n ≤ 1000) (s : FW.Sq n g) (ha : HP a = some (.lst (as.map V.ref))) (hl : as.length = g.length) (hr : ∀ (i : Nat) b r, as[i]? = some b → g[i]? = some r → HP b = some (.lst (r.map gv))) : Dv K HP (.ref a) (gridD g) := by
  have zz : ∀ k : Nat, k ≤ 1000 → k ≤ sizeLine := fun k h => Nat.le_trans h (by decide +kernel)
  have row : ∀ r : List (Option Int), DvA K HP (r.map gv) (r.map gd) := fun r => by
    induction r with
    | nil => exact .nil
    | cons x r ih =>
      refine .cons ?_ ih
      cases x with
      | none => exact .non
      | some i => exact .int i
  refine .lst ha (by rw [List.length_map, s.len]; exact zz n hn) ?_
  have key : ∀ (as : List Addr) (g : FW.G), as.length = g.length → (∀ r ∈ g, r.length = n) → (∀ (i : Nat) b r, as[i]? = some b → g[i]? = some r → HP b = some (.lst (r.map gv))) → DvA K HP (as.map V.ref) (g.map fun r => .lst (r.map gd)) := by
    intro as
    induction as with
    | nil =>
      intro g hl _ _
      cases g with
      | nil => exact .nil
      | cons _ _ => cases hl
    | cons b as ih =>
      intro g hl hs hr
      cases g with
      | nil => cases hl
      | cons r g =>
        refine .cons (.lst (hr 0 b r rfl rfl) (by rw [List.length_map, hs r List.mem_cons_self]; exact zz n hn) (row r)) (ih g (by simpa using hl) (fun r hr => hs r (List.mem_cons_of_mem _ hr)) fun i c q e1 e2 => hr (i + 1) c q e1 e2)
  exact key as g hl (fun r hr => by
    obtain ⟨i, hi, e⟩ := List.mem_iff_getElem.mp hr
    exact s.row i r (by rw [List.getElem?_eq_getElem hi, e])) hr
theorem fin_stp {K : PySem.W.Frag} {va : VA} {b d1 d2 : D} {σ σ' : L2.St} {HP H0 H : Hp} {n : Nat} {g : FW.G} {a : Addr} {as : List Addr} (hn : n ≤ 1000) (s : FW.Sq n g)
    (rl : Rel K va ⟨[some (.val b), some (.val d1), some (.val (.int (n : Int))), none, none, none, none, none, none, none], none⟩ σ HP H0) (h : GI H0 a as g H) (k : Keep4 σ a n σ') :
    ∃ HP', Stp K va ⟨[some (.val b), some (.val d1), some (.val (.int (n : Int))), none, none, none, none, none, none, none], none⟩ σ HP H0
      ⟨[some (.val b), some (.val d1), some (.val (.int (n : Int))), some (.val (gridD g)), none, none, none, none, none, none], none⟩ σ' HP' H := by
  have ma : ∀ c, c ∈ a :: as → H0 c = none := fun c hc => by
    rcases List.mem_cons.mp hc with rfl | hc
    · exact h.na
    · exact h.nas c hc
  have sm : Same HP (fun c => if c ∈ a :: as then H c else HP c) := fun c o q => by
    dsimp only
    rw [if_neg]
    · exact q
    · intro hc
      have := rl.sub c o q
      rw [ma c hc] at this; cases this
  have ha : (fun c => if c ∈ a :: as then H c else HP c) a = some (.lst (as.map V.ref)) := by
    dsimp only
    rw [if_pos List.mem_cons_self]
    exact h.tb
  have hr : ∀ (i : Nat) c r, as[i]? = some c → g[i]? = some r → (fun c => if c ∈ a :: as then H c else HP c) c = some (.lst (r.map gv)) := fun i c r e1 e2 => by
    dsimp only
    rw [if_pos (List.mem_cons_of_mem _ (List.mem_of_getElem? e1))]
    exact h.rows i c r e1 e2
  have nt : ∀ c ps, (fun c => if c ∈ a :: as then H c else HP c) c ≠ some (.tbl ps) := fun c ps z => by
    dsimp only at z
    split at z
    · rename_i hc
      rcases List.mem_cons.mp hc with rfl | hc
      · rw [h.tb] at z; cases z
      · obtain ⟨i, hi, e⟩ := List.mem_iff_getElem.mp hc
        have hi' : i < g.length := by rw [← h.len]; exact hi
        rw [h.rows i c _ (by rw [List.getElem?_eq_getElem hi, e]) (List.getElem?_eq_getElem hi')] at z
        cases z
    · exact rl.tab.n c ps z
  refine ⟨_, ⟨by rw [k.len]; exact rl.len, fun c o q => ?_, fun i d q => ?_, fun i xs q => ?_, fun i q => ?_, fun xs q => ?_, fun i j xs ys c _ q => ?_, fun i xs q => ?_, ⟨rl.tab.t.ext h.old, nt⟩, ⟨fun i n p q => ?_, fun i j n p n' p' c _ q => ?_, fun i n p c q => ?_⟩⟩, sm, fun c o q _ _ => ⟨h.old c o q, fun z => ?_, fun z => ?_⟩, Iff.rfl, fun c dx fs q z _ => ⟨h.old c _ q, ?_, fun ⟨i, n, p, q1, _⟩ => ?_⟩⟩
  · split at q
    · exact q
    · exact h.old c o (rl.sub c o q)
  · match i, q with
    | 0, q =>
      cases q
      obtain ⟨v, e, dv⟩ := rl.val 0 b rfl
      exact ⟨v, by rw [k.s0]; exact e, Dv.mono sm b v dv⟩
    | 1, q =>
      cases q
      obtain ⟨v, e, dv⟩ := rl.val 1 d1 rfl
      exact ⟨v, by rw [k.s1]; exact e, Dv.mono sm d1 v dv⟩
    | 2, q => cases q; exact ⟨_, k.s2, .int _⟩
    | 3, q => cases q; exact ⟨_, k.s3, grid_dv hn s ha h.len hr⟩
    | i + 4, q =>
      rcases i with _ | _ | _ | _ | _ | _ | i <;> simp at q
  · rcases i with _ | _ | _ | _ | _ | _ | _ | _ | _ | _ | i <;> simp at q
  · rcases i with _ | _ | _ | _ | _ | _ | _ | _ | _ | _ | i <;> simp at q
  · cases q
  · rcases i with _ | _ | _ | _ | _ | _ | _ | _ | _ | _ | i <;> simp at q
  · rcases i with _ | _ | _ | _ | _ | _ | _ | _ | _ | _ | i <;> simp at q
  · rcases i with _ | _ | _ | _ | _ | _ | _ | _ | _ | _ | i <;> simp at q
  · rcases i with _ | _ | _ | _ | _ | _ | _ | _ | _ | _ | i <;> simp at q
  · rcases i with _ | _ | _ | _ | _ | _ | _ | _ | _ | _ | i <;> simp at q
  · rcases z with ⟨i, xs, q1, q2⟩ | ⟨z, _⟩
    · rcases i with _ | _ | _ | _ | _ | _ | _ | _ | _ | _ | i <;> simp at q1
    · exact z rfl
  · rw [if_neg]
    · exact z
    · intro hc
      rw [ma c hc] at q; cases q
  · rw [if_neg]
    · exact z
    · intro hc
      rw [ma c hc] at q; cases q
  · rcases i with _ | _ | _ | _ | _ | _ | _ | _ | _ | _ | i <;> simp at q1
theorem mid_of {X : Cx} {W : WX} {f5 : S → T} {sts : List Stmt} (h : PSs X sts (tSeq tMk (tSeq (tL3 X.K) (tSeq (tL4 X.K) (tDS X W f5))))) : DSs X W sts (midS f5) := by
  refine pss_imp h fun D σ H ⟨va, s, HP, rl, p⟩ => ?_
  unfold midS at p
  split at p
  case h_2 => exact p.elim
  case h_1 b ds k =>
    split at p
    case isFalse => exact p.elim
    case isTrue hk =>
      split at p
      case h_2 => exact p.elim
      case h_1 bs hb =>
        obtain ⟨n, rfl⟩ : ∃ n : Nat, k = (n : Int) := ⟨k.toNat, by omega⟩
        rw [Int.toNat_natCast] at hb p
        obtain ⟨rfl, f⟩ := deBs_some hb
        have hn : n ≤ 1000 := by omega
        have hl : σ.length = 10 := rl.len.symm
        obtain ⟨v2, e2, d2⟩ := rl.val 2 _ rfl
        cases d2
        obtain ⟨v1, e1, d1⟩ := rl.val 1 _ rfl
        cases d1 with
        | @lst c us _ h1 hz h2 =>
          refine mk_ok (D := { D with nx := tSeq (tL3 X.K) (tSeq (tL4 X.K) (tDS X W f5)) D }) hl hn e2 fun a as H1 g1 => ?_
          have k0 : Keep4 σ a n (σ.set 3 (some (.ref a))) := ⟨by rw [List.length_set], st_put_ne (by omega), st_put_ne (by omega), by rw [st_put_ne (by omega)]; exact e2, set_self (by omega)⟩
          refine l3_ok (D := { D with nx := tSeq (tL4 X.K) (tDS X W f5) D }) g1 (FW.start_sq n) k0 (by rw [List.length_set]; exact hl) f (by rw [st_put_ne (by omega)]; exact e1) rl.sub h1 h2 fun σ2 H2 g2 k2 => ?_
          refine l4_ok (D := { D with nx := tDS X W f5 D }) hn g2 (FW.lay_sq bs _ (FW.start_sq n)) k2 (by rw [k2.len]; exact hl) fun σ3 H3 g3 k3 => ?_
          have sq := (FW.allF_keep (keepT n) n _ (Nat.le_refl _) (FW.lay_sq bs _ (FW.start_sq n)) trivial).1
          obtain ⟨HP', st⟩ := fin_stp (d2 := .non) hn sq rl g3 k3
          exact ⟨va, _, HP', st.rel, PoS.from st p⟩
end
end Z

namespace Z
open PySem PySem.Spec PyProof.Rows L2 DL
section
variable {P : Program} {w : World} {K : PySem.W.Frag} {mg : Str → Option Value} {base : Heap}
/-! ## the bounds of tellings -/
def enT : FW.Tel → D
  | .span run a b lo hi => .tup [.str "span", .int (run : Int), .int (a : Int), .int (b : Int), .int lo, .int hi]
  | .gap run other mark lo hi => .tup [.str "gap", .int (run : Int), .int (other : Int), .int (mark : Int), .int lo, .int hi]
  | .best a b time => .tup [.str "best", .int (a : Int), .int (b : Int), .int time]
def bdsD (bs : List FW.Bd) : D := .lst (bs.map enB)
def bk (r p : Nat) (t : D) : D := .tup [.int (r : Int), .int (p : Int), t]
theorem eq_ii (i j : Int) : opEq (.int i) (.int j) = some (.bl (decide (i = j))) := by
  rw [eq_okd (by simp [okd]) (by simp [okd])]
  rfl
theorem eq_nat (i j : Nat) : opEq (.int (i : Int)) (.int (j : Int)) = some (.bl (decide (i = j))) := by
  rw [eq_ii]
  congr 2
  exact decide_eq_decide.mpr (by omega)
theorem mul_small {i j : Nat} (hi : i ≤ 100000) (hj : j ≤ 100000) : opMul (.int (i : Int)) (.int (j : Int)) = some (.int ((i : Int) * (j : Int))) := by
  refine mul_ok _ _ ?_
  unfold okMul
  simp
  have h1 := Nat.log2_le_self i
  have h2 := Nat.log2_le_self j
  omega
@[simp] theorem is_nn : opIs .non .non = some (.bl true) := rfl
@[simp] theorem is_in (i : Int) : opIs (.int i) .non = some (.bl false) := rfl
theorem app_small {xs ys : List D} (h : xs.length ≤ 100000) (h2 : ys.length ≤ 100000) : opAdd (.lst xs) (.lst ys) = some (.lst (xs ++ ys)) := add_lst (by omega)
def P_point (m : FM) : Prop := ∀ (r p run mark : Nat) (t : D), p ≤ 4 → run ≤ 4 → m [bk r p t, .int (run : Int), .int (mark : Int)] none = .ok (.int (FW.pt p run mark : Int)) none
theorem ok_point (B : Bl mg) (Th : There K mg "point" s_point p_point) : ∃ m, Has P w K mg base 1 "point" p_point m ∧ P_point m := by
  refine ⟨_, has_any Th sc_point fun f cdv A outer s H E hr tk hp => (dss_one (ds_ret (de_if (dt_cmp (od_eq hr) (de_v 2) de_int (nomark _)) de_int (de_op od_add (de_op od_mul (de_v 1) (de_ix (de_v 0) de_int)) (de_v 2))))), ?_⟩
  intro r p run mark t hp hr
  have e : opEq (.int (mark : Int)) (.int 0) = some (.bl (decide (mark = 0))) := eq_nat mark 0
  by_cases h : mark = 0
  · simp [e, h, FW.pt]
  · have e2 : opMul (.int (run : Int)) (.int (p : Int)) = some (.int ((run : Int) * (p : Int))) := mul_small (by omega) (by omega)
    simp [e, h, FW.pt, bk, e2]
def P_span (m : FM) : Prop := ∀ (r p run a b : Nat) (t : D) (lo hi : Option Int), p ≤ 4 → run ≤ 4 → m [bk r p t, .int (run : Int), .int (a : Int), .int (b : Int), gd lo, gd hi] none = .ok (bdsD (FW.spanB p run a b lo hi)) none
theorem ok_span_bounds (B : Bl mg) (h_point : ∃ m, Has P w K mg base 1 "point" p_point m ∧ P_point m) (Th : There K mg "span_bounds" s_span_bounds p_span_bounds) : ∃ m, Has P w K mg base 2 "span_bounds" p_span_bounds m ∧ P_span m := by
  obtain ⟨m1, h_point, pp⟩ := h_point
  refine ⟨_, has_any Th sc_span_bounds fun f cdv A outer s H E hr tk hp => (dss_cons (ds_par 6 7 rfl sc_span_bounds.nd (da_cons (dc h_point tk (hr.mono (by decide)) (da_cons (de_v 0) (da_cons (de_v 1) (da_cons (de_v 2) da_nil)))) (da_cons (dc h_point tk (hr.mono (by decide)) (da_cons (de_v 0) (da_cons (de_v 1) (da_cons (de_v 3) da_nil)))) da_nil)))
    (dss_cons (ds_set 8 sc_span_bounds.nd (de_if (dt_cmp od_is (de_v 4) de_non (nomark _)) (de_lst da_nil) (de_lst (da_cons (de_tup (da_cons (de_v 7) (da_cons (de_v 6) (da_cons (de_op od_sub de_int (de_v 4)) da_nil)))) da_nil))))
    (dss_one (ds_ret (de_if (dt_cmp od_is (de_v 5) de_non (nomark _)) (de_v 8) (de_op od_add (de_v 8) (de_lst (da_cons (de_tup (da_cons (de_v 6) (da_cons (de_v 7) (da_cons (de_v 5) da_nil)))) da_nil)))))))), ?_⟩
  intro r p run a b t lo hi hp hr
  have c : ∀ (mark : Nat) s, callP m1 3 [bk r p t, .int (run : Int), .int (mark : Int)] s = .ok (.int (FW.pt p run mark : Int)) s := fun mark s => by simp [callP, pp r p run mark t hp hr]
  cases lo <;> cases hi <;> simp [c, gd, FW.spanB, bdsD, enB, app_small]
def P_gap (m : FM) : Prop := ∀ (r p run other mark : Nat) (t : D) (lo hi : Option Int), p ≤ 4 → run ≤ 4 → other ≤ 4 → m [bk r p t, .int (run : Int), .int (other : Int), .int (mark : Int), gd lo, gd hi] none = .ok (bdsD (FW.gapB p run other mark lo hi)) none
theorem ok_gap_bounds (B : Bl mg) (h_point : ∃ m, Has P w K mg base 1 "point" p_point m ∧ P_point m) (Th : There K mg "gap_bounds" s_gap_bounds p_gap_bounds) : ∃ m, Has P w K mg base 2 "gap_bounds" p_gap_bounds m ∧ P_gap m := by
  obtain ⟨m1, h_point, pp⟩ := h_point
  refine ⟨_, has_any Th sc_gap_bounds fun f cdv A outer s H E hr tk hp => (dss_cons (ds_par 6 7 rfl sc_gap_bounds.nd (da_cons (dc h_point tk (hr.mono (by decide)) (da_cons (de_v 0) (da_cons (de_v 1) (da_cons (de_v 3) da_nil)))) (da_cons (dc h_point tk (hr.mono (by decide)) (da_cons (de_v 0) (da_cons (de_v 2) (da_cons (de_v 3) da_nil)))) da_nil)))
    (dss_cons (ds_set 8 sc_gap_bounds.nd (de_if (dt_cmp od_is (de_v 4) de_non (nomark _)) (de_lst da_nil) (de_lst (da_cons (de_tup (da_cons (de_v 6) (da_cons (de_v 7) (da_cons (de_op od_sub de_int (de_v 4)) da_nil)))) da_nil))))
    (dss_one (ds_ret (de_if (dt_cmp od_is (de_v 5) de_non (nomark _)) (de_v 8) (de_op od_add (de_v 8) (de_lst (da_cons (de_tup (da_cons (de_v 7) (da_cons (de_v 6) (da_cons (de_v 5) da_nil)))) da_nil)))))))), ?_⟩
  intro r p run other mark t lo hi hp hr ho
  have c : ∀ s, callP m1 3 [bk r p t, .int (run : Int), .int (mark : Int)] s = .ok (.int (FW.pt p run mark : Int)) s := fun s => by simp [callP, pp r p run mark t hp hr]
  have c2 : ∀ s, callP m1 3 [bk r p t, .int (other : Int), .int (mark : Int)] s = .ok (.int (FW.pt p other mark : Int)) s := fun s => by simp [callP, pp r p other mark t hp ho]
  cases lo <;> cases hi <;> simp [c, c2, gd, FW.gapB, bdsD, enB, app_small]
end
end Z

namespace Z
open PySem PySem.Spec PyProof.Rows L2 DL
section
variable {P : Program} {w : World} {K : PySem.W.Frag} {mg : Str → Option Value} {base : Heap}
/-! ## plain, told_bounds, holder_rows, bounds_of -/
theorem plain_len (r p : Nat) : (FW.plainB r p).length = r * p := by
  unfold FW.plainB
  induction r with
  | zero => simp
  | succ r ih =>
    rw [List.range_succ, List.flatMap_append, List.length_append, ih]
    simp [Nat.add_mul]
theorem plain_succ (r p : Nat) : FW.plainB (r + 1) p = FW.plainB r p ++ (List.range p).map fun mark => (FW.pt p r (mark + 1), FW.pt p r mark, (-1 : Int)) := by
  unfold FW.plainB
  rw [List.range_succ, List.flatMap_append]
  simp
theorem size_k {n : Nat} (h : n ≤ 100000) : n < sizeLine := Nat.lt_of_le_of_lt h (by decide +kernel)
theorem toR1_n {n : Nat} {s : S} (h : n ≤ 100000) : toR1 [.int (n : Int)] s = .ok (rngI 0 (n : Int)) s := toR1_ok _ _ (by omega) (by omega)
theorem rng_get {n i : Nat} {d : D} (h : (rngI 0 (n : Int))[i]? = some d) : d = .int (i : Int) ∧ i < n := by
  obtain ⟨h1, h2⟩ := rngI_get h
  rw [Int.zero_add] at h1 h2
  exact ⟨h1, by omega⟩
theorem rng_len (n : Nat) : (rngI 0 (n : Int)).length = n := by rw [rngI_len]; omega
/-- a loop over range(n), by an invariant over a state function -/
theorem forL_rng {α : Type} {g : D → S → Option S} {body : S → T} (st : α → S) (J : Nat → α → Prop) (n : Nat) (a0 : α) (h0 : J 0 a0)
    (h : ∀ (i : Nat) a, i < n → J i a → ∃ s1, g (.int (i : Int)) (st a) = some s1 ∧ ∀ I : S → Prop, (∀ a', J (i + 1) a' → I (st a')) → (body s1).nx I) : ∃ a, forL g body (rngI 0 (n : Int)) (st a0) = .next (st a) ∧ J n a := by
  have := forL_st (g := g) (body := body) st J (rngI 0 (n : Int)) a0 h0 fun i d a hd hj => by
    obtain ⟨rfl, hi⟩ := rng_get hd
    exact h i a hi hj
  rw [rng_len] at this
  exact this
def P_plain (m : FM) : Prop := ∀ (r p : Nat) (t : D), r ≤ 4 → p ≤ 4 → m [bk r p t] none = .ok (bdsD (FW.plainB r p)) none
theorem ok_plain (B : Bl mg) (h_point : ∃ m, Has P w K mg base 1 "point" p_point m ∧ P_point m) (Th : There K mg "plain" s_plain p_plain) : ∃ m, Has P w K mg base 2 "plain" p_plain m ∧ P_plain m := by
  obtain ⟨m1, h_point, pp⟩ := h_point
  refine ⟨_, has_any Th sc_plain fun f cdv A outer s H E hr tk hp => (dss_cons (ds_own 1 sc_plain.nd da_nil)
    (dss_cons (ds_for hp rfl (di_range1 rfl B.range (da_cons (de_ix (de_v 0) de_int) da_nil)) (dg_v 2 sc_plain.nd) (dss_one (ds_for hp rfl (di_range1 rfl B.range (da_cons (de_ix (de_v 0) de_int) da_nil)) (dg_v 3 sc_plain.nd) (dss_one (ds_append 1 (de_tup (da_cons (dc h_point tk (hr.mono (by decide)) (da_cons (de_v 0) (da_cons (de_v 2) (da_cons (de_op od_add (de_v 3) de_int) da_nil)))) (da_cons (dc h_point tk (hr.mono (by decide)) (da_cons (de_v 0) (da_cons (de_v 2) (da_cons (de_v 3) da_nil)))) (da_cons (de_neg de_int) da_nil)))))))))
    (dss_one (ds_ret (de_v 1))))), ?_⟩
  intro r p t hr hp
  have c : ∀ (run mark : Nat) s, run < r → callP m1 3 [bk r p t, .int (run : Int), .int (mark : Int)] s = .ok (.int (FW.pt p run mark : Int)) s := fun run mark s h => by simp [callP, pp r p run mark t hp (by omega)]
  simp [bk, toR1_n (show r ≤ 100000 by omega)]
  generalize hf : forL _ _ _ _ = q
  let st : List FW.Bd × Option Sl × Option Sl → S := fun a => ⟨[some (Sl.val (bk r p t)), some (Sl.own (a.1.map enB)), a.2.1, a.2.2], none⟩
  have key : ∃ a, q = .next (st a) ∧ a.1 = FW.plainB r p := by
    rw [← hf]; clear hf
    refine forL_rng st (fun k a => a.1 = FW.plainB k p) r ([], none, none) rfl ?_
    rintro i ⟨l, o2, o3⟩ hi hl
    dsimp only at hl
    refine ⟨_, rfl, fun I hI => ?_⟩
    simp [st, bk, toR1_n (show p ≤ 100000 by omega)]
    generalize hg : forL _ _ _ _ = q
    let st2 : List FW.Bd × Option Sl → S := fun a => ⟨[some (Sl.val (bk r p t)), some (Sl.own (a.1.map enB)), some (Sl.val (.int (i : Int))), a.2], none⟩
    have key : ∃ a, q = .next (st2 a) ∧ a.1 = FW.plainB (i + 1) p := by
      rw [← hg]; clear hg
      rw [plain_succ]
      refine forL_rng st2 (fun k a => a.1 = FW.plainB i p ++ (List.range k).map fun mark => (FW.pt p i (mark + 1), FW.pt p i mark, (-1 : Int))) p (l, o3) (by simp [hl]) ?_
      rintro j ⟨l, o3⟩ hj hl
      dsimp only at hl
      have ll : l.length < sizeLine := size_k (by
        rw [hl, List.length_append, plain_len]
        have : i * p ≤ 4 * 4 := Nat.mul_le_mul (by omega) hp
        simp
        omega)
      refine ⟨_, rfl, fun I hI => ?_⟩
      have c1 : ∀ s, callP m1 3 [bk r p t, .int (i : Int), .int ((j : Int) + 1)] s = .ok (.int (FW.pt p i (j + 1) : Int)) s := fun s => c i (j + 1) s hi
      simp [st2, isOwn, apnd, ll, c1, c i j _ hi]
      have := hI (l ++ [(FW.pt p i (j + 1), FW.pt p i j, (-1 : Int))], some (.val (.int (j : Int)))) (by rw [hl, List.range_succ]; simp)
      simpa [st2, enB] using this
    obtain ⟨⟨l2, o4⟩, rfl, hl2⟩ := key
    dsimp only at hl2
    simp
    exact hI (l2, some (.val (.int (i : Int))), o4) hl2
  obtain ⟨⟨l, o2, o3⟩, rfl, hl⟩ := key
  dsimp only at hl
  subst hl
  simp [st, bdsD]
end
end Z

namespace Z
open PySem PySem.Spec PyProof.Rows L2 DL
section
variable {P : Program} {w : World} {K : PySem.W.Frag} {mg : Str → Option Value} {base : Heap}
/-- a loop over a list of things -/
theorem forL_map {α β : Type} {g : D → S → Option S} {body : S → T} (mk : β → D) (st : α → S) (J : Nat → α → Prop) (l : List β) (a0 : α) (h0 : J 0 a0)
    (h : ∀ (i : Nat) x a, l[i]? = some x → J i a → ∃ s1, g (mk x) (st a) = some s1 ∧ ∀ I : S → Prop, (∀ a', J (i + 1) a' → I (st a')) → (body s1).nx I) : ∃ a, forL g body (l.map mk) (st a0) = .next (st a) ∧ J l.length a := by
  have := forL_st (g := g) (body := body) st J (l.map mk) a0 h0 fun i d a hd hj => by
    rw [List.getElem?_map] at hd
    cases e : l[i]? with
    | none => rw [e] at hd; cases hd
    | some x => rw [e] at hd; cases hd; exact h i x a e hj
  rw [List.length_map] at this
  exact this
theorem eqs {a b : Str} (ha : PyData.strOk a = true) (hb : PyData.strOk b = true) : opEq (.str a) (.str b) = some (.bl (a == b)) := eq_str' ha hb
theorem e_gg : opEq (.str "gap") (.str "gap") = some (.bl true) := by rw [eqs ok_gap ok_gap]; simp
theorem e_bs : opEq (.str "best") (.str "span") = some (.bl false) := by rw [eqs ok_best ok_span, show ("best" == ("span" : Str)) = false by decide +kernel]
theorem e_bg : opEq (.str "best") (.str "gap") = some (.bl false) := by rw [eqs ok_best ok_gap, show ("best" == ("gap" : Str)) = false by decide +kernel]
def hD : Option Nat → D
  | none => .non
  | some k => .int (k : Int)
theorem eq_hold (run : Nat) (h : Option Nat) : opEq (.int (run : Int)) (hD h) = some (.bl (decide (some run = h))) := by
  cases h with
  | none =>
    show opEq (.int (run : Int)) .non = _
    rw [eq_okd (by simp [okd]) (by simp [okd])]
    rfl
  | some k =>
    show opEq (.int (run : Int)) (.int (k : Int)) = _
    rw [eq_nat]
    simp
def P_told (m : FM) : Prop := ∀ (r p : Nat) (t : D) (x : FW.Tel) (h : Option Nat), r ≤ 4 → p ≤ 4 → x.Ok r p → m [bk r p t, enT x, hD h] none = .ok (bdsD (FW.toldB r p h x)) none
theorem span_len (p run a b : Nat) (lo hi : Option Int) : (FW.spanB p run a b lo hi).length ≤ 2 := by cases lo <;> cases hi <;> simp [FW.spanB]
theorem gap_len (p run a b : Nat) (lo hi : Option Int) : (FW.gapB p run a b lo hi).length ≤ 2 := by cases lo <;> cases hi <;> simp [FW.gapB]
theorem best_len (p a b : Nat) (f g : Nat → Option Int) (r : Nat) : ((List.range r).flatMap fun run => FW.spanB p run a b (f run) (g run)).length ≤ 2 * r := by
  induction r with
  | zero => simp
  | succ r ih =>
    rw [List.range_succ, List.flatMap_append, List.length_append]
    have := span_len p r a b (f r) (g r)
    simp only [List.flatMap_cons, List.flatMap_nil, List.append_nil]
    omega
theorem told_len {r p : Nat} {h : Option Nat} {x : FW.Tel} : (FW.toldB r p h x).length ≤ 2 * r + 2 := by
  cases x with
  | span run a b lo hi => exact Nat.le_trans (span_len p run a b (some lo) (some hi)) (by omega)
  | gap run other mark lo hi => exact Nat.le_trans (gap_len p run other mark (some lo) (some hi)) (by omega)
  | best a b time => exact Nat.le_trans (best_len p a b (fun _ => some time) (fun run => if some run = h then some time else none) r) (by omega)
theorem ok_told_bounds (B : Bl mg) (h_span_bounds : ∃ m, Has P w K mg base 2 "span_bounds" p_span_bounds m ∧ P_span m) (h_gap_bounds : ∃ m, Has P w K mg base 2 "gap_bounds" p_gap_bounds m ∧ P_gap m) (Th : There K mg "told_bounds" s_told_bounds p_told_bounds) : ∃ m, Has P w K mg base 3 "told_bounds" p_told_bounds m ∧ P_told m := by
  obtain ⟨m1, h_span_bounds, ps⟩ := h_span_bounds
  obtain ⟨m2, h_gap_bounds, pg⟩ := h_gap_bounds
  refine ⟨_, has_any Th sc_told_bounds fun f cdv A outer s H E hr tk hp => (dss_cons (ds_if (dt_cmp (od_eq hr) (de_ix (de_v 1) de_int) de_str (nomark _)) (dss_one (ds_ret (dc h_span_bounds tk (hr.mono (by decide)) (da_cons (de_v 0) (da_cons (de_ix (de_v 1) de_int) (da_cons (de_ix (de_v 1) de_int) (da_cons (de_ix (de_v 1) de_int) (da_cons (de_ix (de_v 1) de_int) (da_cons (de_ix (de_v 1) de_int) da_nil))))))))) dss_nil)
    (dss_cons (ds_if (dt_cmp (od_eq hr) (de_ix (de_v 1) de_int) de_str (nomark _)) (dss_one (ds_ret (dc h_gap_bounds tk (hr.mono (by decide)) (da_cons (de_v 0) (da_cons (de_ix (de_v 1) de_int) (da_cons (de_ix (de_v 1) de_int) (da_cons (de_ix (de_v 1) de_int) (da_cons (de_ix (de_v 1) de_int) (da_cons (de_ix (de_v 1) de_int) da_nil))))))))) dss_nil)
    (dss_cons (ds_set 3 sc_told_bounds.nd (de_lst da_nil))
    (dss_cons (ds_for hp rfl (di_range1 rfl B.range (da_cons (de_ix (de_v 0) de_int) da_nil)) (dg_v 4 sc_told_bounds.nd) (dss_cons (ds_set 5 sc_told_bounds.nd (de_if (dt_cmp (od_eq hr) (de_v 4) (de_v 2) (nomark _)) (de_ix (de_v 1) de_int) de_non))
      (dss_one (ds_set 3 sc_told_bounds.nd (de_op od_add (de_v 3) (dc h_span_bounds tk (hr.mono (by decide)) (da_cons (de_v 0) (da_cons (de_v 4) (da_cons (de_ix (de_v 1) de_int) (da_cons (de_ix (de_v 1) de_int) (da_cons (de_ix (de_v 1) de_int) (da_cons (de_v 5) da_nil))))))))))))
    (dss_one (ds_ret (de_v 3))))))), ?_⟩
  intro r p t x h hr hp ok
  cases x with
  | span run a b lo hi =>
    obtain ⟨o1, o2, o3, _⟩ := ok
    have c : ∀ s, callP m1 6 [bk r p t, .int (run : Int), .int (a : Int), .int (b : Int), .int lo, .int hi] s = .ok (bdsD (FW.spanB p run a b (some lo) (some hi))) s := fun s => by
      have := ps r p run a b t (some lo) (some hi) hp (by omega)
      simp only [gd] at this
      simp [callP, this]
    simp [enT, e_ss, c, FW.toldB]
  | gap run other mark lo hi =>
    obtain ⟨o1, o2, _⟩ := ok
    have c : ∀ s, callP m2 6 [bk r p t, .int (run : Int), .int (other : Int), .int (mark : Int), .int lo, .int hi] s = .ok (bdsD (FW.gapB p run other mark (some lo) (some hi))) s := fun s => by
      have := pg r p run other mark t (some lo) (some hi) hp (by omega) (by omega)
      simp only [gd] at this
      simp [callP, this]
    simp [enT, e_gs, e_gg, c, FW.toldB]
  | best a b time =>
    have i0 : opIx (bk r p t) (.int 0) = some (.int (r : Int)) := rfl
    simp [enT, e_bs, e_bg, i0, toR1_n (show r ≤ 100000 by omega)]
    generalize hf : forL _ _ _ _ = q
    let st : List FW.Bd × Option Sl × Option Sl → S := fun a' => ⟨[some (Sl.val (bk r p t)), some (Sl.val (.tup [.str "best", .int (a : Int), .int (b : Int), .int time])), some (Sl.val (hD h)), some (Sl.val (bdsD a'.1)), a'.2.1, a'.2.2], none⟩
    have key : ∃ a', q = .next (st a') ∧ a'.1 = (List.range r).flatMap fun run => FW.spanB p run a b (some time) (if some run = h then some time else none) := by
      rw [← hf]; clear hf
      refine forL_rng st (fun k a' => a'.1 = (List.range k).flatMap fun run => FW.spanB p run a b (some time) (if some run = h then some time else none)) r ([], none, none) rfl ?_
      rintro i ⟨l, o4, o5⟩ hi hl
      dsimp only at hl
      refine ⟨_, rfl, fun I hI => ?_⟩
      have c : ∀ (hi' : Option Int) s, callP m1 6 [bk r p t, .int (i : Int), .int (a : Int), .int (b : Int), .int time, gd hi'] s = .ok (bdsD (FW.spanB p i a b (some time) hi')) s := fun hi' s => by
        have := ps r p i a b t (some time) hi' hp (by omega)
        simp only [gd] at this
        cases hi' <;> simp only [gd] at this ⊢ <;> simp [callP, this]
      have ll : l.length ≤ 2 * i := by rw [hl]; exact best_len p a b (fun _ => some time) (fun run => if some run = h then some time else none) i
      have ad : ∀ hi' : Option Int, opAdd (bdsD l) (bdsD (FW.spanB p i a b (some time) hi')) = some (bdsD (l ++ FW.spanB p i a b (some time) hi')) := fun hi' => by
        unfold bdsD
        have := span_len p i a b (some time) hi'
        rw [app_small (by simp; omega) (by simp; omega), List.map_append]
      have eh := eq_hold i h
      by_cases q : some i = h
      · rw [decide_eq_true q] at eh
        have c1 := c (some time)
        simp only [gd] at c1
        simp [st, eh, c1, ad]
        exact hI (_, _, _) (by dsimp only; rw [hl, List.range_succ, List.flatMap_append]; simp [q])
      · rw [decide_eq_false q] at eh
        have c1 := c none
        simp only [gd] at c1
        simp [st, eh, c1, ad]
        exact hI (_, _, _) (by dsimp only; rw [hl, List.range_succ, List.flatMap_append]; simp [q])
    obtain ⟨⟨l, o4, o5⟩, rfl, hl⟩ := key
    dsimp only at hl
    subst hl
    simp [st, FW.toldB]
/-! ## the holders -/
def rowD (h : List Nat) : D := .tup (h.map fun k : Nat => .int (k : Int))
def rowsD (l : List (List Nat)) : D := .lst (l.map rowD)
theorem compL2_flat {α β : Type} {vs vs1 : List Nat} {g : D → S → Option S} {t : S → R Bool} {fi1 : S → R (List D)} {g1 : D → S → Option S} {t1 : S → R Bool} {f : S → R D} (mk : α → D) (inner : α → List β) (mk1 : β → D) (h : α → β → D) (s0 : S) : ∀ (l : List α) (acc : List D),
    acc.length + (l.flatMap inner).length ≤ sizeLine →
    (∀ x ∈ l, ∃ s1 s3, g (mk x) s0 = some s1 ∧ t s1 = .ok true s1 ∧ fi1 s1 = .ok ((inner x).map mk1) s1 ∧ s1.wipe vs1 = s3 ∧ s3.wipe vs = s0 ∧ ∀ y ∈ inner x, ∃ s4, g1 (mk1 y) s3 = some s4 ∧ t1 s4 = .ok true s4 ∧ f s4 = .ok (h x y) s4 ∧ s4.wipe vs1 = s3) →
    compL2 vs vs1 g t fi1 g1 t1 f (l.map mk) acc s0 = .ok (acc ++ l.flatMap fun x => (inner x).map (h x)) s0
  | [], acc, _, _ => by simp [compL2]
  | x :: l, acc, hz, q => by
    obtain ⟨s1, s3, e1, e2, e3, e4, e5, e6⟩ := q x List.mem_cons_self
    rw [List.flatMap_cons, List.length_append] at hz
    rw [List.map_cons]
    unfold compL2
    rw [e1]
    dsimp only
    rw [e2]
    dsimp only
    rw [if_pos rfl, e3]
    dsimp only
    rw [if_pos (by rw [List.length_map]; omega), e4, compL_mapf mk1 (h x) s3 (inner x) acc e6]
    dsimp only
    rw [e5, compL2_flat mk inner mk1 h s0 l _ (by rw [List.length_append, List.length_map]; omega) fun y hy => q y (List.mem_cons_of_mem _ hy)]
    simp
theorem rng_map (n : Nat) : rngI 0 (n : Int) = (List.range n).map fun k => .int (k : Int) := by
  unfold rngI
  rw [Int.sub_zero, Int.toNat_natCast]
  refine List.map_congr_left fun k _ => ?_
  rw [Int.zero_add]
theorem enT_best (x : FW.Tel) : opIx (enT x) (.int 0) = some (.str (match x with
    | .span _ _ _ _ _ => "span"
    | .gap _ _ _ _ _ => "gap"
    | .best _ _ _ => "best")) := by cases x <;> rfl
theorem hold_step {r : Nat} {l : List (List Nat)} {x : FW.Tel} (h : x.isBest = true) : FW.holdStep r l x = l.flatMap fun row => (List.range r).map fun run => row ++ [run] := by
  unfold FW.holdStep
  rw [if_pos h]
theorem hold_skip {r : Nat} {l : List (List Nat)} {x : FW.Tel} (h : x.isBest = false) : FW.holdStep r l x = l := by
  unfold FW.holdStep
  rw [if_neg (by rw [h]; simp)]
theorem flat_len {α β : Type} (l : List α) (f : α → List β) (n : Nat) (h : ∀ x, (f x).length = n) : (l.flatMap f).length = l.length * n := by
  induction l with
  | nil => simp
  | cons x l ih => rw [List.flatMap_cons, List.length_append, ih, h, List.length_cons, Nat.add_mul]; omega
theorem holders_len {r : Nat} (hr : r ≤ 4) : ∀ (ts : List FW.Tel) (l : List (List Nat)) (n : Nat), l.length ≤ n → (ts.foldl (FW.holdStep r) l).length ≤ n * 4 ^ (ts.filter FW.Tel.isBest).length
  | [], l, n, h => by simpa using h
  | x :: ts, l, n, h => by
    rw [List.foldl_cons]
    cases e : x.isBest with
    | false =>
      rw [hold_skip e, List.filter_cons_of_neg (by rw [e]; simp)]
      exact holders_len hr ts l n h
    | true =>
      rw [hold_step e, List.filter_cons_of_pos e, List.length_cons, Nat.pow_succ]
      have := holders_len hr ts (l.flatMap fun row => (List.range r).map fun run => row ++ [run]) (n * 4) (by
        rw [flat_len _ _ r (by simp)]
        exact Nat.mul_le_mul h hr)
      rw [Nat.mul_comm (4 ^ _) 4, ← Nat.mul_assoc]
      exact this
theorem hold_len {r : Nat} : ∀ (ts : List FW.Tel) (h : List Nat), FW.Hold r ts h → h.length ≤ ts.length
  | [], h, q => by
    have : h = [] := q
    rw [this]; simp
  | x :: ts, h, q => by
    rw [FW.hold_cons] at q
    cases e : x.isBest with
    | false =>
      simp only [e, Bool.false_eq_true, if_false] at q
      have := hold_len ts h q
      rw [List.length_cons]; omega
    | true =>
      simp only [e, if_true] at q
      obtain ⟨k, h', rfl, _, q⟩ := q
      have := hold_len ts h' q
      rw [List.length_cons, List.length_cons]; omega
def P_hold (m : FM) : Prop := ∀ (r p : Nat) (t : D) (ts : List FW.Tel), r ≤ 4 → ts.length ≤ 100 → (ts.filter FW.Tel.isBest).length ≤ 4 → m [bk r p t, .tup (ts.map enT)] none = .ok (rowsD (FW.holders r ts)) none
theorem ok_holder_rows (B : Bl mg) (Th : There K mg "holder_rows" s_holder_rows p_holder_rows) : ∃ m, Has P w K mg base 1 "holder_rows" p_holder_rows m ∧ P_hold m := by
  refine ⟨_, has_any Th sc_holder_rows fun f cdv A outer s H E hr tk hp => (dss_cons (ds_set 2 sc_holder_rows.nd (de_lst (da_cons (de_tup da_nil) da_nil)))
    (dss_cons (ds_for hp rfl (di_seq (de_v 1)) (dg_v 3 sc_holder_rows.nd) (dss_one (ds_if (dt_cmp (od_eq hr) (de_ix (de_v 3) de_int) de_str (nomark _)) (dss_one (ds_setlc2 [4, 5] [5] 2 rfl sc_holder_rows.nd (di_seq (de_v 2)) (blkOk_by (own := [("row", 4), ("run", 5)]) (N := n_holder_rows) (sc := defScope s_holder_rows) (by decide +kernel)) (by decide) (fun _ _ _ _ _ => (dgw_v 4 sc_holder_rows.nd)) (fun _ _ _ _ _ => dts_nil) (fun _ _ _ _ _ => (di_range1 rfl B.range (da_cons (de_ix (de_v 0) de_int) da_nil))) (fun _ _ _ _ _ => (dgw_v 5 sc_holder_rows.nd)) (fun _ _ _ _ _ => dts_nil) (fun _ _ _ _ _ => (de_op od_add (de_v 4) (de_tup (da_cons (de_v 5) da_nil)))) (sw_true rfl rfl rfl (by decide +kernel)))) dss_nil)))
    (dss_one (ds_ret (de_v 2))))), ?_⟩
  intro r p t ts hr hl hb
  have s1 : 1 ≤ sizeLine := by decide +kernel
  simp
  generalize hf : forL _ _ _ _ = q
  let st : List (List Nat) × Option Sl → S := fun a => ⟨[some (Sl.val (bk r p t)), some (Sl.val (.tup (ts.map enT))), some (Sl.val (rowsD a.1)), a.2, none, none], none⟩
  have key : ∃ a, q = .next (st a) ∧ a.1 = FW.holders r ts := by
    rw [← hf]; clear hf
    suffices h : ∃ a, forL _ _ (ts.map enT) (st ([[]], none)) = T.next (st a) ∧ a.1 = FW.holders r (ts.take ts.length) by
      rw [List.take_length] at h
      exact h
    refine forL_map enT st (fun k a => a.1 = FW.holders r (ts.take k)) ts ([[]], none) rfl ?_
    rintro i x ⟨l, o3⟩ hx hl'
    dsimp only at hl'
    have hi : i < ts.length := by
      rcases List.getElem?_eq_some_iff.mp hx with ⟨y, _⟩
      exact y
    have ex : ts[i] = x := by
      rcases List.getElem?_eq_some_iff.mp hx with ⟨_, y⟩
      exact y
    have next : FW.holders r (ts.take (i + 1)) = FW.holdStep r l x := by
      rw [List.take_succ_eq_append_getElem hi, ex, hl']
      unfold FW.holders
      rw [List.foldl_append]
      rfl
    have nb : ((ts.take (i + 1)).filter FW.Tel.isBest).length ≤ 4 := Nat.le_trans (List.Sublist.length_le ((List.take_sublist (i + 1) ts).filter _)) hb
    have nl := holders_len hr (ts.take (i + 1)) [[]] 1 (Nat.le_refl _)
    have p4 : 4 ^ ((ts.take (i + 1)).filter FW.Tel.isBest).length ≤ 4 ^ 4 := Nat.pow_le_pow_right (by decide) nb
    rw [show (ts.take (i + 1)).foldl (FW.holdStep r) [[]] = FW.holders r (ts.take (i + 1)) from rfl, next] at nl
    refine ⟨_, rfl, fun I hI => ?_⟩
    cases x with
    | span run a b lo hi =>
      simp [st, enT, e_sb]
      exact hI (l, _) (by dsimp only; rw [next]; rfl)
    | gap run other mark lo hi =>
      simp [st, enT, e_gb]
      exact hI (l, _) (by dsimp only; rw [next]; rfl)
    | best a b time =>
      rw [hold_step rfl] at nl next
      simp [st, enT, e_bb, rowsD]
      generalize hc : compL2 _ _ _ _ _ _ _ _ _ _ _ = q
      have key : q = .ok ([] ++ l.flatMap fun row => (List.range r).map fun k => rowD (row ++ [k])) ⟨[some (Sl.val (bk r p t)), some (Sl.val (.tup (ts.map enT))), some (Sl.val (rowsD l)), some (Sl.val (enT (.best a b time))), none, none], none⟩ := by
        rw [← hc]
        clear hc
        refine compL2_flat rowD (fun _ => List.range r) (fun k => .int (k : Int)) (fun row k => rowD (row ++ [k])) _ l [] ?_ ?_
        · rw [flat_len _ _ r (by simp), List.length_nil]
          rw [flat_len _ _ r (by simp)] at nl
          have : 1 * 4 ^ ((ts.take (i + 1)).filter FW.Tel.isBest).length ≤ 256 := by omega
          exact Nat.le_of_lt (size_k (by omega))
        · intro row hrow
          refine ⟨_, _, rfl, rfl, ?_, rfl, rfl, fun k hk => ⟨_, rfl, rfl, ?_, rfl⟩⟩
          · simp [bk, toR1_n (show r ≤ 100000 by omega), rng_map]
          · have : row.length ≤ 100 := by
              rw [hl'] at hrow
              have := hold_len _ _ (FW.mem_holders.mp hrow)
              rw [List.length_take] at this
              omega
            simp
            unfold rowD
            rw [add_tup (by simp; omega)]
            simp
      clear hc
      subst key
      simp
      have := hI (l.flatMap fun row => (List.range r).map fun k => row ++ [k], some (.val (enT (.best a b time)))) (by dsimp only; rw [next])
      simp only [st, rowsD, enT, List.map_flatMap, List.map_map] at this
      exact this
  obtain ⟨⟨l, o3⟩, rfl, hl'⟩ := key
  dsimp only at hl'
  subst hl'
  simp [st]
end
end Z

namespace Z
open PySem PySem.Spec PyProof.Rows L2 DL
section
variable {P : Program} {w : World} {K : PySem.W.Frag} {mg : Str → Option Value} {base : Heap}
/-! ## closed: the table, or None -/
theorem eq_nilL {xs : List D} (h : xs.all (okd 59) = true) : opEq (.lst xs) (.lst []) = some (.bl xs.isEmpty) := by
  rw [eq_okd (by simpa [okd] using h) (by simp [okd])]
  cases xs <;> simp [deq, deqA]
theorem ne_nilL {xs : List D} (h : xs.all (okd 59) = true) : opNe (.lst xs) (.lst []) = some (.bl !xs.isEmpty) := by
  rw [ne_okd (by simpa [okd] using h) (by simp [okd])]
  cases xs <;> simp [deq, deqA]
def rowG (g : FW.G) (i : Nat) : D := .lst ((g.getD i []).map gd)
theorem grid_ix {g : FW.G} {n i : Nat} (s : FW.Sq n g) (hi : i < n) : opIx (gridD g) (.int (i : Int)) = some (rowG g i) := by
  unfold gridD rowG
  rw [ix_lst', at_n, List.getElem?_map, List.getD_eq_getElem?_getD, List.getElem?_eq_getElem (by rw [s.len]; exact hi)]
  rfl
theorem row_ix {g : FW.G} {n i j : Nat} (s : FW.Sq n g) (hi : i < n) (hj : j < n) : opIx (rowG g i) (.int (j : Int)) = some (gd (FW.gat g i j)) := by
  have hl : i < g.length := by rw [s.len]; exact hi
  have e := List.getElem?_eq_getElem hl
  have hr := s.row i _ e
  unfold rowG FW.gat
  rw [ix_lst', at_n, List.getElem?_map, List.getD_eq_getElem?_getD, e]
  dsimp only [Option.getD_some]
  rw [List.getElem?_eq_getElem (by rw [hr]; exact hj)]
  rfl
def closedD (r p : Nat) (bs : List FW.Bd) : D := match FW.closed (FW.many r p) bs with
  | some g => gridD g
  | none => .non
theorem mid_eq {f5 : S → T} {b : D} {bs : List FW.Bd} {n : Nat} (h1 : 1 ≤ n) (h2 : n ≤ 1000) (f : FW.Fit n bs) : midS f5 ⟨[some (.val b), some (.val (bdsD bs)), some (.val (.int (n : Int))), none, none, none, none, none, none, none], none⟩ =
    f5 ⟨[some (.val b), some (.val (bdsD bs)), some (.val (.int (n : Int))), some (.val (gridD (FW.tab n bs))), none, none, none, none, none, none], none⟩ := by
  show (if 1 ≤ (n : Int) ∧ (n : Int) ≤ 1000 then _ else _) = _
  rw [if_pos (by omega), Int.toNat_natCast, deBs_en f]
  rfl
theorem many_int (r p : Nat) : ((r : Int) * (p : Int) + 1) = ((FW.many r p : Nat) : Int) := by
  unfold FW.many
  rw [Int.natCast_add, Int.natCast_mul]
  rfl
theorem many_le {r p : Nat} (hr : r ≤ 4) (hp : p ≤ 4) : 1 ≤ FW.many r p ∧ FW.many r p ≤ 17 := by
  unfold FW.many
  have : r * p ≤ 4 * 4 := Nat.mul_le_mul hr hp
  omega
def P_closed (m : FM) : Prop := ∀ (r p : Nat) (t : D) (bs : List FW.Bd), r ≤ 4 → p ≤ 4 → FW.Fit (FW.many r p) bs → m [bk r p t, bdsD bs] none = .ok (closedD r p bs) none
theorem ok_closed (B : Bl mg) (Th : There K mg "closed" s_closed p_closed) : ∃ m, Has P w K mg base 1 "closed" p_closed m ∧ P_closed m := by
  refine ⟨_, has_any Th sc_closed fun f cdv A outer s H E hr tk hp => (dss_cons (ds_set 2 sc_closed.nd (de_op od_add (de_op od_mul (de_ix (de_v 0) de_int) (de_ix (de_v 0) de_int)) de_int))
    (mid_of (by exact (pss_cons (ps_set (i := 3) sc_closed.nd rfl (by first | exact Or.inl rfl | exact Or.inr rfl) (pe_lc (own := [("one", 5)]) rfl sc_closed.nd (pi_range1 rfl B.range (pa_cons (pv 2) pa_nil)) (blkOk_by (own := [("one", 5)]) (N := n_closed) (sc := defScope s_closed) (by decide +kernel)) (fun _ _ _ _ _ => (pg_name (i := 5) sc_closed.nd rfl (by first | exact Or.inl rfl | exact Or.inr rfl))) (fun _ _ _ _ _ => pts_nil) (fun _ _ _ _ _ => (pe_lc (own := [("other", 4)]) rfl sc_closed.nd (pi_range1 rfl B.range (pa_cons (pv 2) pa_nil)) (blkOk_by (own := [("other", 4)]) (N := n_closed) (by with_unfolding_all rfl)) (fun _ _ _ _ _ => (pg_name (i := 4) sc_closed.nd rfl (by first | exact Or.inl rfl | exact Or.inr rfl))) (fun _ _ _ _ _ => pts_nil) (fun _ _ _ _ _ => pe_ifExp (pt_cmpR op_eq (pv 5) (pv 4) (nomark _)) pe_int pe_non)))))
    (pss_cons (L2.ps_for hp rfl (pi_list (pv 1)) (pg_tup (n := 3) rfl (pgs_cons (pg_name (i := 5) sc_closed.nd rfl (by first | exact Or.inl rfl | exact Or.inr rfl)) (pgs_cons (pg_name (i := 4) sc_closed.nd rfl (by first | exact Or.inl rfl | exact Or.inr rfl)) (pgs_cons (pg_name (i := 6) sc_closed.nd rfl (by first | exact Or.inl rfl | exact Or.inr rfl)) pgs_nil)))) (pss_one (ps_if (PW.pt (pw_or (pt_cmpR op_isN (pe_ix ix_list (pe_ix ix_list (pv 3) (pv 5) (fun _ _ => rfl)) (pv 4) (fun _ _ => rfl)) pe_non (nomark _)) (pw_or1 (pt_cmpR op_lt (pv 6) (pe_ix ix_list (pe_ix ix_list (pv 3) (pv 5) (fun _ _ => rfl)) (pv 4) (fun _ _ => rfl)) (nomark _))))) (pss_one (ps_asg (pv 6) (pg_sub (pe_ix ix_list (pv 3) (pv 5) (fun _ _ => rfl)) (pv 4) set_list (fun _ => rfl)))) pss_nil)))
    (pss_cons (L2.ps_for hp rfl (pi_range1 rfl B.range (pa_cons (pv 2) pa_nil)) (pg_name (i := 7) sc_closed.nd rfl (by first | exact Or.inl rfl | exact Or.inr rfl)) (pss_one (L2.ps_for hp rfl (pi_range1 rfl B.range (pa_cons (pv 2) pa_nil)) (pg_name (i := 5) sc_closed.nd rfl (by first | exact Or.inl rfl | exact Or.inr rfl)) (pss_one (ps_if (pt_cmpR op_notN (pe_ix ix_list (pe_ix ix_list (pv 3) (pv 5) (fun _ _ => rfl)) (pv 7) (fun _ _ => rfl)) pe_non (nomark _)) (pss_one (L2.ps_for hp rfl (pi_range1 rfl B.range (pa_cons (pv 2) pa_nil)) (pg_name (i := 4) sc_closed.nd rfl (by first | exact Or.inl rfl | exact Or.inr rfl)) (pss_cons (ps_set (i := 8) sc_closed.nd rfl (by first | exact Or.inl rfl | exact Or.inr rfl) (pe_ix ix_list (pe_ix ix_list (pv 3) (pv 7) (fun _ _ => rfl)) (pv 4) (fun _ _ => rfl))) (pss_one (ps_if (pt_cmpR op_notN (pv 8) pe_non (nomark _)) (pss_cons (ps_set (i := 9) sc_closed.nd rfl (by first | exact Or.inl rfl | exact Or.inr rfl) (pe_op op_add (pe_ix ix_list (pe_ix ix_list (pv 3) (pv 5) (fun _ _ => rfl)) (pv 7) (fun _ _ => rfl)) (pv 8))) (pss_one (ps_if (PW.pt (pw_or (pt_cmpR op_isN (pe_ix ix_list (pe_ix ix_list (pv 3) (pv 5) (fun _ _ => rfl)) (pv 4) (fun _ _ => rfl)) pe_non (nomark _)) (pw_or1 (pt_cmpR op_lt (pv 9) (pe_ix ix_list (pe_ix ix_list (pv 3) (pv 5) (fun _ _ => rfl)) (pv 4) (fun _ _ => rfl)) (nomark _))))) (pss_one (ps_asg (pv 9) (pg_sub (pe_ix ix_list (pv 3) (pv 5) (fun _ _ => rfl)) (pv 4) set_list (fun _ => rfl)))) pss_nil))) pss_nil))))) pss_nil)))))
    (dss_one (ds_ret (de_if (dt_cmp (od_eq hr) (de_lc [5] rfl sc_closed.nd (di_range1 rfl B.range (da_cons (de_v 2) da_nil)) (blkOk_by (own := [("one", 5)]) (N := n_closed) (sc := defScope s_closed) (by decide +kernel)) (fun _ _ _ _ _ => (dgw_v 5 sc_closed.nd)) (fun _ _ _ _ _ => (dts_one (dt_cmp od_lt (de_ix (de_ix (de_v 3) (de_v 5)) (de_v 5)) de_int (nomark _)))) (fun _ _ _ _ _ => de_int)) (de_lst da_nil) (nomark _)) (de_v 3) de_non))))))))), ?_⟩
  intro r p t bs hr hp f
  have e2 : opMul (.int (r : Int)) (.int (p : Int)) = some (.int ((r : Int) * (p : Int))) := mul_small (by omega) (by omega)
  obtain ⟨n1, n2⟩ := many_le hr hp
  simp [bk, e2]
  rw [many_int, mid_eq n1 (by omega) f]
  have eR : closedD r p bs = if FW.negB (FW.many r p) (FW.tab (FW.many r p) bs) = true then .non else gridD (FW.tab (FW.many r p) bs) := by
    unfold closedD FW.closed
    split <;> split at * <;> simp_all
  rw [eR]
  clear eR
  generalize FW.many r p = n at f n1 n2
  have sq0 := FW.lay_sq bs _ (FW.start_sq n)
  obtain ⟨sq, le⟩ := FW.allF_keep (FW.keeps_le (n := n) (FW.lay bs (FW.start n))) n _ (Nat.le_refl _) sq0 (FW.Le.refl _)
  have diag : ∀ i, i < n → ∃ d, FW.gat (FW.tab n bs) i i = some d := fun i hi => by
    obtain ⟨d, e, _⟩ := (le.trans (FW.lay_le bs _ f (FW.start_sq n))) i i 0 (FW.start_zer n i hi)
    exact ⟨d, e⟩
  have sq' : FW.Sq n (FW.tab n bs) := sq
  generalize FW.tab n bs = g at diag sq'
  generalize hN : (if FW.negB n g = true then D.non else gridD g) = RR
  generalize hG : gridD g = gg
  have q1 : ∀ s, toR1 [.int (n : Int)] s = .ok (rngI 0 (n : Int)) s := fun s => toR1_n (by omega)
  rw [getS_mk]
  rw [show ([some (Sl.val (D.tup [.int (r : Int), .int (p : Int), t])), some (Sl.val (bdsD bs)), some (Sl.val (.int (n : Int))), some (Sl.val gg), none, none, none, none, none, none] : List (Option Sl))[2]? = some (some (.val (.int (n : Int)))) from rfl]
  rw [getL_val, R.bind_ok]
  rw [R.bind_ok]
  rw [q1, R.bind_ok]
  simp
  generalize hc : compL _ _ _ _ _ _ _ = q
  let tb : Nat → Bool := fun i => match FW.gat g i i with
    | some d => decide (d < 0)
    | none => false
  have key : q = .ok (((List.range n).filter tb).map fun _ => .int 1) ⟨[some (Sl.val (.tup [.int (r : Int), .int (p : Int), t])), some (Sl.val (bdsD bs)), some (Sl.val (.int (n : Int))), some (Sl.val gg), none, none, none, none, none, none], none⟩ := by
    rw [← hc]
    clear hc
    rw [rng_map]
    refine (compL_map (ds := (List.range n).map fun k : Nat => .int (k : Int)) (tb := fun d => match d with
      | .int i => tb i.toNat
      | _ => false) (fd := fun _ => .int 1) _ _ ?_).trans ?_
    · intro d hd
      obtain ⟨i, hi, rfl⟩ := List.mem_map.mp hd
      have hi := List.mem_range.mp hi
      obtain ⟨d, ed⟩ := diag i hi
      have ri := row_ix sq' hi hi
      rw [ed] at ri
      refine ⟨_, rfl, ?_, fun _ => rfl, rfl⟩
      have gi := grid_ix sq' hi
      rw [hG] at gi
      simp [gi, ri, gd, tb, ed]
    · rw [List.filter_map, List.map_map, List.nil_append]
      rfl
  clear hc
  subst key
  generalize hX : ((List.range n).filter tb).map (fun _ => D.int 1) = X
  have ok : X.all (okd 59) = true := by
    rw [← hX, List.all_map, List.all_eq_true]
    intro x _
    simp [okd]
  have em : X.isEmpty = !FW.negB n g := by
    rw [← hX]
    cases hb : FW.negB n g with
    | true =>
      unfold FW.negB at hb
      rw [List.any_eq_true] at hb
      obtain ⟨i, hi, hb⟩ := hb
      have : i ∈ (List.range n).filter tb := List.mem_filter.mpr ⟨hi, hb⟩
      cases hl : (List.range n).filter tb with
      | nil => rw [hl] at this; cases this
      | cons _ _ => rfl
    | false =>
      unfold FW.negB at hb
      rw [List.any_eq_false] at hb
      rw [show (List.range n).filter tb = [] from List.filter_eq_nil_iff.mpr hb]
      rfl
  have eqX := eq_nilL ok
  rw [em] at eqX
  cases hb : FW.negB n g with
  | true =>
    rw [hb] at eqX hN
    rw [if_pos rfl] at hN
    simp [eqX, hN]
  | false =>
    rw [hb] at eqX hN
    rw [if_neg (by simp), hG] at hN
    simp [eqX, hN]
end
end Z

namespace Z
open PySem PySem.Spec PyProof.Rows L2 DL
section
variable {P : Program} {w : World} {K : PySem.W.Frag} {mg : Str → Option Value} {base : Heap}
/-! ## bounds_of -/
theorem fold_len {r p : Nat} : ∀ (ts : List FW.Tel) (s : List FW.Bd × List Nat) (n : Nat), s.1.length ≤ n → (ts.foldl (FW.bdStep r p) s).1.length ≤ n + ts.length * (2 * r + 2)
  | [], s, n, h => by simpa using h
  | x :: ts, s, n, h => by
    rw [List.foldl_cons, List.length_cons, Nat.add_mul]
    have e : (FW.bdStep r p s x).1.length ≤ n + (2 * r + 2) := by
      unfold FW.bdStep
      split
      · rw [List.length_append]; have := told_len (r := r) (p := p) (h := s.2.head?) (x := x); omega
      · rw [List.length_append]; have := told_len (r := r) (p := p) (h := none) (x := x); omega
    have := fold_len (r := r) (p := p) ts _ _ e
    omega
def tsD (ts : List FW.Tel) : D := .tup (ts.map enT)
def P_bounds (m : FM) : Prop := ∀ (r p : Nat) (t : D) (ts : List FW.Tel) (h : List Nat), r ≤ 4 → p ≤ 4 → (∀ x ∈ ts, x.Ok r p) → ts.length ≤ 100 → FW.Hold r ts h → m [bk r p t, tsD ts, rowD h] none = .ok (bdsD (FW.boundsOf r p ts h)) none
theorem ok_bounds_of (B : Bl mg) (h_plain : ∃ m, Has P w K mg base 2 "plain" p_plain m ∧ P_plain m) (h_told_bounds : ∃ m, Has P w K mg base 3 "told_bounds" p_told_bounds m ∧ P_told m) (Th : There K mg "bounds_of" s_bounds_of p_bounds_of) :
    ∃ m, Has P w K mg base 4 "bounds_of" p_bounds_of m ∧ P_bounds m := by
  obtain ⟨m1, h_plain, pp⟩ := h_plain
  obtain ⟨m2, h_told_bounds, pt⟩ := h_told_bounds
  refine ⟨_, has_any Th sc_bounds_of fun f cdv A outer s H E hr tk hp => (dss_cons (ds_set 3 sc_bounds_of.nd (dc h_plain tk (hr.mono (by decide)) (da_cons (de_v 0) da_nil)))
    (dss_cons (ds_set 4 sc_bounds_of.nd (de_callT cd_lst B.list PyProof.Rows.boot_list (da_cons (de_v 2) da_nil)))
    (dss_cons (ds_for hp rfl (di_seq (de_v 1)) (dg_v 5 sc_bounds_of.nd) (dss_cons (ds_set 6 sc_bounds_of.nd de_non)
      (dss_cons (ds_if (dt_cmp (od_eq hr) (de_ix (de_v 5) de_int) de_str (nomark _)) (dss_one (ds_par 6 4 rfl sc_bounds_of.nd (da_cons (de_ix (de_v 4) de_int) (da_cons (de_sl (de_v 4) (do_some de_int) do_none) da_nil)))) dss_nil)
      (dss_one (ds_set 3 sc_bounds_of.nd (de_op od_add (de_v 3) (dc h_told_bounds tk (hr.mono (by decide)) (da_cons (de_v 0) (da_cons (de_v 5) (da_cons (de_v 6) da_nil))))))))))
    (dss_one (ds_ret (de_v 3)))))), ?_⟩
  intro r p t ts h hr hp ok hl hh
  have c1 : ∀ s, callP m1 1 [bk r p t] s = .ok (bdsD (FW.plainB r p)) s := fun s => by simp [callP, pp r p t hr hp]
  have li : gLst [rowD h] = some (.lst (h.map fun k : Nat => .int (k : Int))) := rfl
  simp [c1, li, tsD]
  generalize hf : forL _ _ _ _ = q
  let st : (List FW.Bd × List Nat) × Option Sl × Option Sl → S := fun a => ⟨[some (Sl.val (bk r p t)), some (Sl.val (tsD ts)), some (Sl.val (rowD h)), some (Sl.val (bdsD a.1.1)), some (Sl.val (.lst (a.1.2.map fun k : Nat => .int (k : Int)))), a.2.1, a.2.2], none⟩
  have key : ∃ a, q = .next (st a) ∧ a.1.1 = FW.boundsOf r p ts h := by
    rw [← hf]; clear hf
    suffices hs : ∃ a, forL _ _ (ts.map enT) (st ((FW.plainB r p, h), none, none)) = T.next (st a) ∧ (a.1 = (ts.take ts.length).foldl (FW.bdStep r p) (FW.plainB r p, h) ∧ FW.Hold r (ts.drop ts.length) a.1.2) by
      rw [List.take_length] at hs
      obtain ⟨a, e, h1, _⟩ := hs
      exact ⟨a, e, by rw [h1]; rfl⟩
    refine forL_map enT st (fun k a => a.1 = (ts.take k).foldl (FW.bdStep r p) (FW.plainB r p, h) ∧ FW.Hold r (ts.drop k) a.1.2) ts ((FW.plainB r p, h), none, none) ⟨rfl, hh⟩ ?_
    rintro i x ⟨⟨bs, left⟩, o5, o6⟩ hx ⟨hs, hold⟩
    dsimp only at hs hold
    have hi : i < ts.length := by
      rcases List.getElem?_eq_some_iff.mp hx with ⟨y, _⟩
      exact y
    have ex : ts[i] = x := by
      rcases List.getElem?_eq_some_iff.mp hx with ⟨_, y⟩
      exact y
    have next : (ts.take (i + 1)).foldl (FW.bdStep r p) (FW.plainB r p, h) = FW.bdStep r p (bs, left) x := by
      rw [List.take_succ_eq_append_getElem hi, ex, List.foldl_append, ← hs]
      rfl
    have hok := ok x (List.mem_of_getElem? hx)
    have bl : bs.length ≤ 16 + 100 * 10 := by
      have := fold_len (r := r) (p := p) (ts.take i) (FW.plainB r p, h) (r * p) (by rw [plain_len]; exact Nat.le_refl _)
      rw [← hs] at this
      have h1 : r * p ≤ 4 * 4 := Nat.mul_le_mul hr hp
      have h2 : (ts.take i).length * (2 * r + 2) ≤ 100 * 10 := Nat.mul_le_mul (by rw [List.length_take]; omega) (by omega)
      dsimp only at this
      omega
    have ad : ∀ hd, opAdd (bdsD bs) (bdsD (FW.toldB r p hd x)) = some (bdsD (bs ++ FW.toldB r p hd x)) := fun hd => by
      unfold bdsD
      have := told_len (r := r) (p := p) (h := hd) (x := x)
      rw [app_small (by rw [List.length_map]; omega) (by rw [List.length_map]; omega), List.map_append]
    have c2 : ∀ hd s, callP m2 3 [bk r p t, enT x, hD hd] s = .ok (bdsD (FW.toldB r p hd x)) s := fun hd s => by simp [callP, pt r p t x hd hr hp hok]
    rw [List.drop_eq_getElem_cons hi, ex, FW.hold_cons] at hold
    refine ⟨_, rfl, fun I hI => ?_⟩
    cases hb : x.isBest with
    | false =>
      have e0 : ∃ k, opIx (enT x) (.int 0) = some (.str k) ∧ opEq (.str k) (.str "best") = some (.bl false) := by
        cases x with
        | span run a b lo hi => exact ⟨_, rfl, e_sb⟩
        | gap run other mark lo hi => exact ⟨_, rfl, e_gb⟩
        | best a b time => cases hb
      obtain ⟨k, e1, e2⟩ := e0
      simp only [hb, Bool.false_eq_true, if_false] at hold
      have c3 := c2 none
      simp only [hD] at c3
      simp [st, e1, e2, c3, ad]
      exact hI ((bs ++ FW.toldB r p none x, left), _, _) ⟨by dsimp only; rw [next]; unfold FW.bdStep; rw [if_neg (by rw [hb]; simp)], hold⟩
    | true =>
      have e0 : opIx (enT x) (.int 0) = some (.str "best") := by
        cases x with
        | span run a b lo hi => cases hb
        | gap run other mark lo hi => cases hb
        | best a b time => rfl
      simp only [hb, if_true] at hold
      obtain ⟨k, left', rfl, _, hold⟩ := hold
      have c3 := c2 (some k)
      simp only [hD] at c3
      simp [st, e0, e_bb, c3, ad]
      exact hI ((bs ++ FW.toldB r p (some k) x, left'), _, _) ⟨by dsimp only; rw [next]; unfold FW.bdStep; rw [if_pos hb]; rfl, hold⟩
  obtain ⟨⟨⟨bs, left⟩, o5, o6⟩, rfl, hbs⟩ := key
  dsimp only at hbs
  subst hbs
  simp [st]
end
end Z

namespace Z
open PySem PySem.Spec PyProof.Rows L2 DL
section
variable {P : Program} {w : World} {K : PySem.W.Frag} {mg : Str → Option Value} {base : Heap}
def mkRow (r : List Int) : D := .tup (r.map .int)
def mkRows (rows : List (List Int)) : D := .tup (rows.map mkRow)
end
end Z

namespace Z
open PySem PySem.Spec PyProof.Rows L2 DL
section
variable {P : Program} {w : World} {K : PySem.W.Frag} {mg : Str → Option Value} {base : Heap}
/-! ## tables_of, earliest, first_truth -/
theorem isnot_grid (g : FW.G) : opIsNot (gridD g) .non = some (.bl true) := rfl
theorem isnot_nn : opIsNot .non .non = some (.bl false) := rfl
def P_tables (m : FM) : Prop := ∀ (r p : Nat) (t : D) (ts : List FW.Tel) (more : List FW.Bd), r ≤ 4 → p ≤ 4 → (∀ x ∈ ts, x.Ok r p) → ts.length ≤ 100 → (ts.filter FW.Tel.isBest).length ≤ 4 → FW.Fit (FW.many r p) more → more.length ≤ 1000 →
  m [bk r p t, tsD ts, bdsD more] none = .ok (.lst ((FW.tablesOf r p ts more).map gridD)) none
theorem bounds_len {r p : Nat} (hr : r ≤ 4) (hp : p ≤ 4) {ts : List FW.Tel} (hl : ts.length ≤ 100) (h : List Nat) : (FW.boundsOf r p ts h).length ≤ 16 + 100 * 10 := by
  have := fold_len (r := r) (p := p) ts (FW.plainB r p, h) (r * p) (by rw [plain_len]; exact Nat.le_refl _)
  have h1 : r * p ≤ 4 * 4 := Nat.mul_le_mul hr hp
  have h2 : ts.length * (2 * r + 2) ≤ 100 * 10 := Nat.mul_le_mul hl (by omega)
  unfold FW.boundsOf
  omega
theorem ok_tables_of (B : Bl mg) (h_holder_rows : ∃ m, Has P w K mg base 1 "holder_rows" p_holder_rows m ∧ P_hold m) (h_bounds_of : ∃ m, Has P w K mg base 4 "bounds_of" p_bounds_of m ∧ P_bounds m) (h_closed : ∃ m, Has P w K mg base 1 "closed" p_closed m ∧ P_closed m)
    (Th : There K mg "tables_of" s_tables_of p_tables_of) : ∃ m, Has P w K mg base 5 "tables_of" p_tables_of m ∧ P_tables m := by
  obtain ⟨m1, h_holder_rows, ph⟩ := h_holder_rows
  obtain ⟨m2, h_bounds_of, pb⟩ := h_bounds_of
  obtain ⟨m3, h_closed, pc⟩ := h_closed
  refine ⟨_, has_any Th sc_tables_of fun f cdv A outer s H E hr tk hp => (dss_cons (ds_own 3 sc_tables_of.nd da_nil)
    (dss_cons (ds_for hp rfl (di_seq (dc h_holder_rows tk (hr.mono (by decide)) (da_cons (de_v 0) (da_cons (de_v 1) da_nil)))) (dg_v 4 sc_tables_of.nd) (dss_cons (ds_set 5 sc_tables_of.nd (dc h_closed tk (hr.mono (by decide)) (da_cons (de_v 0) (da_cons (de_op od_add (dc h_bounds_of tk (hr.mono (by decide)) (da_cons (de_v 0) (da_cons (de_v 1) (da_cons (de_v 4) da_nil)))) (de_v 2)) da_nil))))
      (dss_one (ds_if (dt_cmp od_isnot (de_v 5) de_non (nomark _)) (dss_one (ds_append 3 (de_v 5))) dss_nil))))
    (dss_one (ds_ret (de_v 3))))), ?_⟩
  intro r p t ts more hr hp ok hl hb hm hml
  have c1 : ∀ s, callP m1 2 [bk r p t, tsD ts] s = .ok (rowsD (FW.holders r ts)) s := fun s => by
    have := ph r p t ts hr hl hb
    simp [callP, tsD, this]
  simp [c1, rowsD]
  generalize hf : forL _ _ _ _ = q
  let st : List FW.G × Option Sl × Option Sl → S := fun a => ⟨[some (Sl.val (bk r p t)), some (Sl.val (tsD ts)), some (Sl.val (bdsD more)), some (Sl.own (a.1.map gridD)), a.2.1, a.2.2], none⟩
  have hlen : (FW.holders r ts).length ≤ 256 := by
    have := holders_len hr ts [[]] 1 (Nat.le_refl _)
    have p4 : 4 ^ (ts.filter FW.Tel.isBest).length ≤ 4 ^ 4 := Nat.pow_le_pow_right (by decide) hb
    unfold FW.holders
    omega
  have key : ∃ a, q = .next (st a) ∧ a.1 = FW.tablesOf r p ts more := by
    rw [← hf]; clear hf
    suffices hs : ∃ a, forL _ _ ((FW.holders r ts).map rowD) (st ([], none, none)) = T.next (st a) ∧ (a.1 = ((FW.holders r ts).take (FW.holders r ts).length).filterMap (fun h => FW.closed (FW.many r p) (FW.boundsOf r p ts h ++ more))) by
      rw [List.take_length] at hs
      exact hs
    refine forL_map rowD st (fun k a => a.1 = ((FW.holders r ts).take k).filterMap (fun h => FW.closed (FW.many r p) (FW.boundsOf r p ts h ++ more))) (FW.holders r ts) ([], none, none) rfl ?_
    rintro i h ⟨gs, o4, o5⟩ hx hs
    dsimp only at hs
    have hi : i < (FW.holders r ts).length := by
      rcases List.getElem?_eq_some_iff.mp hx with ⟨y, _⟩
      exact y
    have ex : (FW.holders r ts)[i] = h := by
      rcases List.getElem?_eq_some_iff.mp hx with ⟨_, y⟩
      exact y
    have hold := FW.mem_holders.mp (List.mem_of_getElem? hx)
    have bl := bounds_len hr hp hl h
    have c2 : ∀ s, callP m2 3 [bk r p t, tsD ts, rowD h] s = .ok (bdsD (FW.boundsOf r p ts h)) s := fun s => by simp [callP, pb r p t ts h hr hp ok hl hold]
    have ad : opAdd (bdsD (FW.boundsOf r p ts h)) (bdsD more) = some (bdsD (FW.boundsOf r p ts h ++ more)) := by
      unfold bdsD
      rw [app_small (by rw [List.length_map]; omega) (by rw [List.length_map]; omega), List.map_append]
    have c3 : ∀ s, callP m3 2 [bk r p t, bdsD (FW.boundsOf r p ts h ++ more)] s = .ok (closedD r p (FW.boundsOf r p ts h ++ more)) s := fun s => by simp [callP, pc r p t _ hr hp (FW.fit_app (FW.fit_bounds ok) hm)]
    have gl : gs.length < sizeLine := size_k (by
      rw [hs]
      have := List.length_filterMap_le (fun h => FW.closed (FW.many r p) (FW.boundsOf r p ts h ++ more)) ((FW.holders r ts).take i)
      rw [List.length_take] at this
      omega)
    refine ⟨_, rfl, fun I hI => ?_⟩
    have next : ∀ gs', gs' = gs ++ (FW.closed (FW.many r p) (FW.boundsOf r p ts h ++ more)).toList → gs' = ((FW.holders r ts).take (i + 1)).filterMap (fun h => FW.closed (FW.many r p) (FW.boundsOf r p ts h ++ more)) := fun gs' e => by
      rw [e, List.take_succ_eq_append_getElem hi, ex, List.filterMap_append, ← hs]
      cases hcl : FW.closed (FW.many r p) (FW.boundsOf r p ts h ++ more) <;> simp [hcl]
    unfold closedD at c3
    cases hcl : FW.closed (FW.many r p) (FW.boundsOf r p ts h ++ more) with
    | none =>
      rw [hcl] at c3
      simp [st, c2, ad, c3, isnot_nn]
      exact hI (gs, _, _) (next gs (by rw [hcl]; simp))
    | some g =>
      rw [hcl] at c3
      simp [st, c2, ad, c3, isnot_grid, isOwn, apnd, gl]
      have := hI (gs ++ [g], some (.val (rowD h)), some (.val (gridD g))) (next (gs ++ [g]) (by rw [hcl]; simp))
      simp only [st, List.map_append, List.map_cons, List.map_nil] at this
      exact this
  obtain ⟨⟨gs, o4, o5⟩, rfl, hgs⟩ := key
  dsimp only at hgs
  subst hgs
  simp [st]
def P_earliest (m : FM) : Prop := ∀ (r p : Nat) (t : D) (g : FW.G), r ≤ 4 → p ≤ 4 → FW.Sq (FW.many r p) g → (∀ x, x < FW.many r p → ∃ d, FW.gat g x 0 = some d) → m [bk r p t, gridD g] none = .ok (mkRows (FW.earliest r p g)) none
theorem ok_earliest (B : Bl mg) (h_point : ∃ m, Has P w K mg base 1 "point" p_point m ∧ P_point m) (Th : There K mg "earliest" s_earliest p_earliest) : ∃ m, Has P w K mg base 2 "earliest" p_earliest m ∧ P_earliest m := by
  obtain ⟨m1, h_point, pp⟩ := h_point
  refine ⟨_, has_any Th sc_earliest fun f cdv A outer s H E hr tk hp => (dss_cons (ds_own 2 sc_earliest.nd da_nil)
    (dss_cons (ds_for hp rfl (di_range1 rfl B.range (da_cons (de_ix (de_v 0) de_int) da_nil)) (dg_v 3 sc_earliest.nd) (dss_cons (ds_set 4 sc_earliest.nd (de_op od_add (de_lst (da_cons de_int da_nil)) (de_lc [5] rfl sc_earliest.nd (di_range2 rfl B.range (da_cons de_int (da_cons (de_op od_add (de_ix (de_v 0) de_int) de_int) da_nil))) (blkOk_by (own := [("mark", 5)]) (N := n_earliest) (sc := defScope s_earliest) (by decide +kernel)) (fun _ _ _ _ _ => (dgw_v 5 sc_earliest.nd)) (fun _ _ _ _ _ => dts_nil) (fun _ _ _ _ _ => (de_op od_sub de_int (de_ix (de_ix (de_v 1) (dc h_point wf_takes (hr.mono (by decide)) (da_cons (de_v 0) (da_cons (de_v 3) (da_cons (de_v 5) da_nil))))) de_int))))))
      (dss_one (ds_append 2 (de_callT cd_tup B.tuple PyProof.Rows.boot_tuple (da_cons (de_lc [6] rfl sc_earliest.nd (di_range1 rfl B.range (da_cons (de_ix (de_v 0) de_int) da_nil)) (blkOk_by (own := [("at", 6)]) (N := n_earliest) (sc := defScope s_earliest) (by decide +kernel)) (fun _ _ _ _ _ => (dgw_v 6 sc_earliest.nd)) (fun _ _ _ _ _ => dts_nil) (fun _ _ _ _ _ => (de_op od_sub (de_ix (de_v 4) (de_op od_add (de_v 6) de_int)) (de_ix (de_v 4) (de_v 6))))) da_nil))))))
    (dss_one (ds_ret (de_callT cd_tup B.tuple PyProof.Rows.boot_tuple (da_cons (de_v 2) da_nil)))))), ?_⟩
  intro r p t g hr hp sq all
  obtain ⟨R0, hR⟩ : ∃ R0 : Int, R0 = (r : Int) := ⟨_, rfl⟩
  obtain ⟨P0, hP⟩ : ∃ P0 : Int, P0 = (p : Int) := ⟨_, rfl⟩
  have i0 : opIx (bk r p t) (.int 0) = some (.int R0) := by rw [hR]; rfl
  have i1 : opIx (bk r p t) (.int 1) = some (.int P0) := by rw [hP]; rfl
  have q1 : ∀ s, toR1 [.int R0] s = .ok (rngI 0 R0) s := fun s => by rw [hR]; exact toR1_n (by omega)
  have q2 : ∀ s, toR1 [.int P0] s = .ok (rngI 0 P0) s := fun s => by rw [hP]; exact toR1_n (by omega)
  have q3 : ∀ s, toR2 [.int 1, .int (P0 + 1)] s = .ok (rngI 1 (P0 + 1)) s := fun s => if_pos (by omega)
  have w2 : rngI 0 P0 = (List.range p).map fun k : Nat => .int (k : Int) := by rw [hP]; exact rng_map p
  have w3 : rngI 1 (P0 + 1) = (List.range p).map fun k : Nat => .int (1 + (k : Int)) := by
    unfold rngI
    rw [show (P0 + 1 - 1).toNat = p by omega]
  have pz : 0 < FW.many r p := by unfold FW.many; omega
  simp [i0, q1]
  rw [hR]
  generalize hf : forL _ _ _ _ = q
  let st : List (List Int) × Option Sl × Option Sl → S := fun a => ⟨[some (Sl.val (bk r p t)), some (Sl.val (gridD g)), some (Sl.own (a.1.map mkRow)), a.2.1, a.2.2, none, none], none⟩
  have key : ∃ a, q = .next (st a) ∧ a.1 = FW.earliest r p g := by
    rw [← hf]; clear hf
    refine forL_rng st (fun k a => a.1 = FW.earliest k p g) r ([], none, none) rfl ?_
    rintro i ⟨l, o3, o4⟩ hi hl
    dsimp only at hl
    have ll : l.length < sizeLine := size_k (by rw [hl]; unfold FW.earliest; simp; omega)
    refine ⟨_, rfl, fun I hI => ?_⟩
    have mom : ∀ m, m ≤ p → (FW.momE p g i)[m]? = some ((FW.momE p g i).getD m 0) := fun m hm => by
      rw [List.getD_eq_getElem?_getD, List.getElem?_eq_getElem (by unfold FW.momE; simp; omega)]
      rfl
    simp [st, i1, q3]
    rw [w3]
    generalize hc : compL _ _ _ _ _ _ _ = q
    have key : q = .ok ((List.range p).map fun m => .int (0 - FW.gti g (FW.pt p i (m + 1)) 0)) ⟨[some (Sl.val (bk r p t)), some (Sl.val (gridD g)), some (Sl.own (l.map mkRow)), some (Sl.val (.int (i : Int))), o4, none, none], none⟩ := by
      rw [← hc]
      clear hc
      rw [compL_mapf (mk := fun k : Nat => .int (1 + (k : Int))) (h := fun m => .int (0 - FW.gti g (FW.pt p i (m + 1)) 0))]
      · rfl
      · intro m hm
        have hm := List.mem_range.mp hm
        have c1 : ∀ s, callP m1 3 [bk r p t, .int (i : Int), .int (1 + (m : Int))] s = .ok (.int (FW.pt p i (m + 1) : Int)) s := fun s => by
          have := pp r p i (m + 1) t hp (by omega)
          rw [show ((m + 1 : Nat) : Int) = 1 + (m : Int) by omega] at this
          simp [callP, this]
        have pl := FW.pt_lt (r := r) hi (show m + 1 ≤ p by omega)
        obtain ⟨d, ed⟩ := all _ pl
        have x1 := grid_ix sq pl
        have x2 := row_ix sq pl pz
        rw [ed] at x2
        have x2' : opIx (rowG g (FW.pt p i (m + 1))) (.int 0) = some (.int d) := x2
        refine ⟨_, rfl, rfl, ?_, rfl⟩
        simp [c1, x1, x2', FW.gti, ed]
    clear hc
    subst key
    have ad : opAdd (.lst [.int 0]) (.lst ((List.range p).map fun m => .int (0 - FW.gti g (FW.pt p i (m + 1)) 0))) = some (.lst ((FW.momE p g i).map .int)) := by
      rw [app_small (by simp) (by simp; omega)]
      unfold FW.momE
      simp
    simp only [Int.zero_sub] at ad ⊢
    simp [ad, isOwn, i1, q2]
    rw [w2]
    generalize hc : compL _ _ _ _ _ _ _ = q
    have key : q = .ok ((List.range p).map fun at' => .int ((FW.momE p g i).getD (at' + 1) 0 - (FW.momE p g i).getD at' 0)) ⟨[some (Sl.val (bk r p t)), some (Sl.val (gridD g)), some (Sl.own (l.map mkRow)), some (Sl.val (.int (i : Int))), some (Sl.val (.lst ((FW.momE p g i).map .int))), none, none], none⟩ := by
      rw [← hc]
      clear hc
      rw [compL_mapf (mk := fun k : Nat => .int (k : Int)) (h := fun at' => .int ((FW.momE p g i).getD (at' + 1) 0 - (FW.momE p g i).getD at' 0))]
      · rfl
      · intro m hm
        have hm := List.mem_range.mp hm
        have x1 : opIx (.lst ((FW.momE p g i).map .int)) (.int (m : Int)) = some (.int ((FW.momE p g i).getD m 0)) := by
          rw [ix_lst', at_n, List.getElem?_map, mom m (by omega)]
          rfl
        have x2 : opIx (.lst ((FW.momE p g i).map .int)) (.int ((m : Int) + 1)) = some (.int ((FW.momE p g i).getD (m + 1) 0)) := by
          rw [show (m : Int) + 1 = ((m + 1 : Nat) : Int) by omega, ix_lst', at_n, List.getElem?_map, mom (m + 1) (by omega)]
          rfl
        refine ⟨_, rfl, rfl, ?_, rfl⟩
        generalize D.lst ((FW.momE p g i).map .int) = mm at x1 x2
        simp [x1, x2]
    clear hc
    subst key
    have tp : DL.gTup [.lst ((List.range p).map fun at' => .int ((FW.momE p g i).getD (at' + 1) 0 - (FW.momE p g i).getD at' 0))] = some (mkRow ((List.range p).map fun at' => (FW.momE p g i).getD (at' + 1) 0 - (FW.momE p g i).getD at' 0)) := by
      unfold mkRow
      rw [List.map_map]
      rfl
    simp [tp, apnd, ll]
    have := hI (l ++ [(List.range p).map fun at' => (FW.momE p g i).getD (at' + 1) 0 - (FW.momE p g i).getD at' 0], some (.val (.int (i : Int))), some (.val (.lst ((FW.momE p g i).map .int)))) (by
      dsimp only
      rw [hl]
      unfold FW.earliest
      rw [List.range_succ, List.map_append]
      rfl)
    simpa [st, mkRow, List.map_map, Function.comp_def] using this
  obtain ⟨⟨l, o3, o4⟩, rfl, hl⟩ := key
  dsimp only at hl
  subst hl
  simp [st]
  rfl
end
end Z

namespace Z
open PySem PySem.Spec PyProof.Rows L2 DL
section
variable {P : Program} {w : World} {K : PySem.W.Frag} {mg : Str → Option Value} {base : Heap}
/-! ## first_truth, against, breaking, needless_of -/
theorem grid_okd (g : FW.G) : okd 59 (gridD g) = true := by
  unfold gridD
  simp only [okd, List.all_map, List.all_eq_true]
  intro r _
  show okd 58 (.lst (r.map gd)) = true
  simp only [okd, List.all_map, List.all_eq_true]
  intro x _
  show okd 57 (gd x) = true
  cases x <;> rfl
theorem table_facts {r p : Nat} {ts : List FW.Tel} {more : List FW.Bd} {g : FW.G} (hp : 0 < p) (ok : ∀ x ∈ ts, x.Ok r p) (fm : FW.Fit (FW.many r p) more) (h : g ∈ FW.tablesOf r p ts more) : FW.Sq (FW.many r p) g ∧ ∀ x, x < FW.many r p → ∃ d, FW.gat g x 0 = some d := by
  obtain ⟨q, hq, e⟩ := FW.mem_tables h
  have w := FW.closed_some (FW.fit_app (FW.fit_bounds (h := q) ok) fm) e
  refine ⟨w.sq, fun x hx => ?_⟩
  rcases FW.pt_of hx hp with rfl | ⟨run, mark, hr, _, h2, rfl⟩
  · exact ⟨0, w.zer 0 hx⟩
  · exact FW.way_zero w FW.plain_in hr mark h2
def optT : Option (List (List Int)) → D
  | none => .non
  | some T => mkRows T
structure InR (r p : Nat) (ts : List FW.Tel) : Prop where
  r4 : r ≤ 4
  p1 : 0 < p
  p4 : p ≤ 4
  ok : ∀ x ∈ ts, x.Ok r p
  len : ts.length ≤ 100
  few : (ts.filter FW.Tel.isBest).length ≤ 4
def P_first (m : FM) : Prop := ∀ (r p : Nat) (t : D) (ts : List FW.Tel) (more : List FW.Bd), InR r p ts → FW.Fit (FW.many r p) more → more.length ≤ 1000 → m [bk r p t, tsD ts, bdsD more] none = .ok (optT (FW.firstTruth r p ts more)) none
theorem ok_first_truth (B : Bl mg) (h_tables_of : ∃ m, Has P w K mg base 5 "tables_of" p_tables_of m ∧ P_tables m) (h_earliest : ∃ m, Has P w K mg base 2 "earliest" p_earliest m ∧ P_earliest m) (Th : There K mg "first_truth" s_first_truth p_first_truth) :
    ∃ m, Has P w K mg base 6 "first_truth" p_first_truth m ∧ P_first m := by
  obtain ⟨m1, h_tables_of, pt⟩ := h_tables_of
  obtain ⟨m2, h_earliest, pe⟩ := h_earliest
  refine ⟨_, has_any Th sc_first_truth fun f cdv A outer s H E hr tk hp => (dss_cons (ds_set 3 sc_first_truth.nd (dc h_tables_of tk (hr.mono (by decide)) (da_cons (de_v 0) (da_cons (de_v 1) (da_cons (de_v 2) da_nil)))))
    (dss_one (ds_ret (de_if (dt_cmp (od_ne hr) (de_v 3) (de_lst da_nil) (nomark _)) (dc h_earliest tk (hr.mono (by decide)) (da_cons (de_v 0) (da_cons (de_ix (de_v 3) de_int) da_nil))) de_non)))), ?_⟩
  intro r p t ts more hi fm ml
  have c1 : ∀ s, callP m1 3 [bk r p t, tsD ts, bdsD more] s = .ok (.lst ((FW.tablesOf r p ts more).map gridD)) s := fun s => by simp [callP, pt r p t ts more hi.r4 hi.p4 hi.ok hi.len hi.few fm ml]
  have hall : ((FW.tablesOf r p ts more).map gridD).all (okd 59) = true := by
    rw [List.all_map, List.all_eq_true]
    exact fun g _ => grid_okd g
  have en := ne_nilL hall
  unfold FW.firstTruth
  have mem := fun g h => table_facts (g := g) hi.p1 hi.ok fm h
  cases hg : FW.tablesOf r p ts more with
  | nil =>
    rw [hg] at c1 en
    simp only [List.map_nil, List.isEmpty_nil, Bool.not_true] at c1 en
    simp [c1, en, optT]
  | cons g l =>
    rw [hg] at c1 en mem
    obtain ⟨sq, al⟩ := mem g List.mem_cons_self
    have c2 : ∀ s, callP m2 2 [bk r p t, gridD g] s = .ok (mkRows (FW.earliest r p g)) s := fun s => by simp [callP, pe r p t g hi.r4 hi.p4 sq al]
    simp only [List.map_cons, List.isEmpty_cons, Bool.not_false] at c1 en
    simp [c1, en, c2, optT]
def P_against (m : FM) : Prop := ∀ (r p : Nat) (t : D) (x : FW.Tel), r ≤ 4 → p ≤ 4 → x.Ok r p → m [bk r p t, enT x] none = .ok (.lst ((FW.against r p x).map bdsD)) none
theorem ok_against (B : Bl mg) (h_span_bounds : ∃ m, Has P w K mg base 2 "span_bounds" p_span_bounds m ∧ P_span m) (h_gap_bounds : ∃ m, Has P w K mg base 2 "gap_bounds" p_gap_bounds m ∧ P_gap m) (Th : There K mg "against" s_against p_against) : ∃ m, Has P w K mg base 3 "against" p_against m ∧ P_against m := by
  obtain ⟨m1, h_span_bounds, ps⟩ := h_span_bounds
  obtain ⟨m2, h_gap_bounds, pg⟩ := h_gap_bounds
  refine ⟨_, has_any Th sc_against fun f cdv A outer s H E hr tk hp => (dss_cons (ds_if (dt_cmp (od_eq hr) (de_ix (de_v 1) de_int) de_str (nomark _)) (dss_cons (ds_asg (de_sl (de_v 1) (do_some de_int) do_none) (dg_tup (n := 5) rfl (dgs_cons (dg_v 2 sc_against.nd) (dgs_cons (dg_v 3 sc_against.nd) (dgs_cons (dg_v 4 sc_against.nd) (dgs_cons (dg_v 5 sc_against.nd) (dgs_cons (dg_v 6 sc_against.nd) dgs_nil)))))))
      (dss_one (ds_ret (de_lst (da_cons (dc h_span_bounds tk (hr.mono (by decide)) (da_cons (de_v 0) (da_cons (de_v 2) (da_cons (de_v 3) (da_cons (de_v 4) (da_cons de_non (da_cons (de_op od_sub (de_v 5) de_int) da_nil))))))) (da_cons (dc h_span_bounds tk (hr.mono (by decide)) (da_cons (de_v 0) (da_cons (de_v 2) (da_cons (de_v 3) (da_cons (de_v 4) (da_cons (de_op od_add (de_v 6) de_int) (da_cons de_non da_nil))))))) da_nil)))))) dss_nil)
    (dss_cons (ds_if (dt_cmp (od_eq hr) (de_ix (de_v 1) de_int) de_str (nomark _)) (dss_cons (ds_asg (de_sl (de_v 1) (do_some de_int) do_none) (dg_tup (n := 5) rfl (dgs_cons (dg_v 2 sc_against.nd) (dgs_cons (dg_v 7 sc_against.nd) (dgs_cons (dg_v 8 sc_against.nd) (dgs_cons (dg_v 5 sc_against.nd) (dgs_cons (dg_v 6 sc_against.nd) dgs_nil)))))))
      (dss_one (ds_ret (de_lst (da_cons (dc h_gap_bounds tk (hr.mono (by decide)) (da_cons (de_v 0) (da_cons (de_v 2) (da_cons (de_v 7) (da_cons (de_v 8) (da_cons de_non (da_cons (de_op od_sub (de_v 5) de_int) da_nil))))))) (da_cons (dc h_gap_bounds tk (hr.mono (by decide)) (da_cons (de_v 0) (da_cons (de_v 2) (da_cons (de_v 7) (da_cons (de_v 8) (da_cons (de_op od_add (de_v 6) de_int) (da_cons de_non da_nil))))))) da_nil)))))) dss_nil)
    (dss_cons (ds_asg (de_sl (de_v 1) (do_some de_int) do_none) (dg_tup (n := 3) rfl (dgs_cons (dg_v 3 sc_against.nd) (dgs_cons (dg_v 4 sc_against.nd) (dgs_cons (dg_v 9 sc_against.nd) dgs_nil)))))
    (dss_cons (ds_setlc [2] 10 rfl sc_against.nd (di_range1 rfl B.range (da_cons (de_ix (de_v 0) de_int) da_nil)) (blkOk_by (own := [("run", 2)]) (N := n_against) (sc := defScope s_against) (by decide +kernel)) (fun _ _ _ _ _ => (dgw_v 2 sc_against.nd)) (fun _ _ _ _ _ => dts_nil) (fun _ _ _ _ _ => (dc h_span_bounds wf_takes (hr.mono (by decide)) (da_cons (de_v 0) (da_cons (de_v 2) (da_cons (de_v 3) (da_cons (de_v 4) (da_cons de_non (da_cons (de_op od_sub (de_v 9) de_int) da_nil)))))))) (sw_true rfl rfl rfl (by decide +kernel)))
    (dss_cons (ds_set 11 sc_against.nd (de_lst da_nil))
    (dss_cons (ds_for hp rfl (di_range1 rfl B.range (da_cons (de_ix (de_v 0) de_int) da_nil)) (dg_v 2 sc_against.nd) (dss_one (ds_set 11 sc_against.nd (de_op od_add (de_v 11) (dc h_span_bounds tk (hr.mono (by decide)) (da_cons (de_v 0) (da_cons (de_v 2) (da_cons (de_v 3) (da_cons (de_v 4) (da_cons (de_op od_add (de_v 9) de_int) (da_cons de_non da_nil)))))))))))
    (dss_one (ds_ret (de_op od_add (de_v 10) (de_lst (da_cons (de_v 11) da_nil))))))))))), ?_⟩
  intro r p t x hr hp ok
  have cs : ∀ (run a b : Nat) (lo hi : Option Int) s, run ≤ 4 → callP m1 6 [bk r p t, .int (run : Int), .int (a : Int), .int (b : Int), gd lo, gd hi] s = .ok (bdsD (FW.spanB p run a b lo hi)) s := fun run a b lo hi s h => by simp [callP, ps r p run a b t lo hi hp h]
  cases x with
  | span run a b lo hi =>
    obtain ⟨o1, o2, o3, _⟩ := ok
    have c1 := fun s => cs run a b none (some (lo - 1)) s (by omega)
    have c2 := fun s => cs run a b (some (hi + 1)) none s (by omega)
    simp only [gd] at c1 c2
    simp [enT, e_ss, unT, asg, c1, c2, FW.against]
  | gap run other mark lo hi =>
    obtain ⟨o1, o2, _⟩ := ok
    have c1 : ∀ s, callP m2 6 [bk r p t, .int (run : Int), .int (other : Int), .int (mark : Int), .non, .int (lo - 1)] s = .ok (bdsD (FW.gapB p run other mark none (some (lo - 1)))) s := fun s => by
      have := pg r p run other mark t none (some (lo - 1)) hp (by omega) (by omega)
      simp only [gd] at this
      simp [callP, this]
    have c2 : ∀ s, callP m2 6 [bk r p t, .int (run : Int), .int (other : Int), .int (mark : Int), .int (hi + 1), .non] s = .ok (bdsD (FW.gapB p run other mark (some (hi + 1)) none)) s := fun s => by
      have := pg r p run other mark t (some (hi + 1)) none hp (by omega) (by omega)
      simp only [gd] at this
      simp [callP, this]
    simp [enT, e_gs, e_gg, unT, asg, c1, c2, FW.against]
  | best a b time =>
    obtain ⟨R0, hR⟩ : ∃ R0 : Int, R0 = (r : Int) := ⟨_, rfl⟩
    have i0 : opIx (bk r p t) (.int 0) = some (.int R0) := by rw [hR]; rfl
    have q1 : ∀ s, toR1 [.int R0] s = .ok (rngI 0 R0) s := fun s => by rw [hR]; exact toR1_n (by omega)
    have w2 : rngI 0 R0 = (List.range r).map fun k : Nat => .int (k : Int) := by rw [hR]; exact rng_map r
    simp [enT, e_bs, e_bg, unT, asg, i0, q1]
    rw [w2]
    generalize hc : compL _ _ _ _ _ _ _ = q
    have key : q = .ok (((List.range r).map fun run => FW.spanB p run a b none (some (time - 1))).map bdsD) ⟨[some (Sl.val (bk r p t)), some (Sl.val (enT (.best a b time))), none, some (Sl.val (.int (a : Int))), some (Sl.val (.int (b : Int))), none, none, none, none, some (Sl.val (.int time)), none, none], none⟩ := by
      rw [← hc]
      clear hc
      rw [compL_mapf (mk := fun k : Nat => .int (k : Int)) (h := fun run => bdsD (FW.spanB p run a b none (some (time - 1))))]
      · rw [List.nil_append, List.map_map]
        rfl
      · intro run hrun
        have hrun := List.mem_range.mp hrun
        have c1 := fun s => cs run a b none (some (time - 1)) s (by omega)
        simp only [gd] at c1
        refine ⟨_, rfl, rfl, ?_, rfl⟩
        simp [c1]
    clear hc
    subst key
    simp [i0, q1, enT]
    rw [hR]
    generalize hf : forL _ _ _ _ = q
    let st : List FW.Bd × Option Sl → S := fun a' => ⟨[some (Sl.val (bk r p t)), some (Sl.val (enT (.best a b time))), a'.2, some (Sl.val (.int (a : Int))), some (Sl.val (.int (b : Int))), none, none, none, none, some (Sl.val (.int time)), some (Sl.val (.lst (((List.range r).map fun run => FW.spanB p run a b none (some (time - 1))).map bdsD))), some (Sl.val (bdsD a'.1))], none⟩
    have key : ∃ a', q = .next (st a') ∧ a'.1 = (List.range r).flatMap fun run => FW.spanB p run a b (some (time + 1)) none := by
      rw [← hf]; clear hf
      rw [← List.map_map] 
      refine forL_rng st (fun k a' => a'.1 = (List.range k).flatMap fun run => FW.spanB p run a b (some (time + 1)) none) r ([], none) rfl ?_
      rintro i ⟨l, o2⟩ hi hl
      dsimp only at hl
      refine ⟨_, rfl, fun I hI => ?_⟩
      have c1 := fun s => cs i a b (some (time + 1)) none s (by omega)
      simp only [gd] at c1
      have ll : l.length ≤ 2 * i := by rw [hl]; exact best_len p a b (fun _ => some (time + 1)) (fun _ => none) i
      have ad : opAdd (bdsD l) (bdsD (FW.spanB p i a b (some (time + 1)) none)) = some (bdsD (l ++ FW.spanB p i a b (some (time + 1)) none)) := by
        unfold bdsD
        have := span_len p i a b (some (time + 1)) none
        rw [app_small (by simp; omega) (by simp; omega), List.map_append]
      simp [st, enT, c1, ad]
      have := hI (l ++ FW.spanB p i a b (some (time + 1)) none, some (.val (.int (i : Int)))) (by dsimp only; rw [hl, List.range_succ, List.flatMap_append]; simp)
      simpa [st, enT] using this
    obtain ⟨⟨l, o2⟩, rfl, hl⟩ := key
    dsimp only at hl
    subst hl
    have ad : opAdd (.lst (((List.range r).map fun run => FW.spanB p run a b none (some (time - 1))).map bdsD)) (.lst [bdsD ((List.range r).flatMap fun run => FW.spanB p run a b (some (time + 1)) none)]) = some (.lst ((FW.against r p (.best a b time)).map bdsD)) := by
      rw [app_small (by simp; omega) (by simp)]
      unfold FW.against
      simp
    rw [List.map_map] at ad
    simp [st, ad]
/-! ## breaking, needless_of -/
/-- how a loop that seeks ends -/
def Fnd {α γ : Type} (enc : γ → D) (st : α → S) (o : Option γ) (q : T) : Prop := match o with
  | none => ∃ a, q = .next (st a)
  | some y => ∃ s', q = .ret (enc y) s' ∧ s'.via = none
theorem forL_find {α β γ : Type} {g : D → S → Option S} {body : S → T} (mk : β → D) (enc : γ → D) (st : α → S) (F : β → Option γ) : ∀ (l : List β) (a0 : α),
    (∀ x ∈ l, ∀ a, ∃ s1, g (mk x) (st a) = some s1 ∧ Fnd enc st (F x) (body s1)) → Fnd enc st (l.findSome? F) (forL g body (l.map mk) (st a0))
  | [], a0, _ => ⟨a0, rfl⟩
  | x :: l, a0, h => by
    obtain ⟨s1, e1, hx⟩ := h x List.mem_cons_self a0
    rw [List.findSome?_cons, List.map_cons]
    unfold forL
    rw [e1]
    dsimp only
    cases hF : F x with
    | none =>
      rw [hF] at hx
      obtain ⟨a', e2⟩ := hx
      rw [e2]
      exact forL_find mk enc st F l a' fun y hy => h y (List.mem_cons_of_mem _ hy)
    | some y =>
      rw [hF] at hx
      obtain ⟨s', e2, e3⟩ := hx
      rw [e2]
      exact ⟨s', rfl, e3⟩
theorem against_len {r p : Nat} {x : FW.Tel} (hr : r ≤ 4) : ∀ more ∈ FW.against r p x, more.length ≤ 1000 := by
  intro more hm
  cases x with
  | span run a b lo hi =>
    simp [FW.against] at hm
    rcases hm with rfl | rfl <;> exact Nat.le_trans (span_len _ _ _ _ _ _) (by omega)
  | gap run other mark lo hi =>
    simp [FW.against] at hm
    rcases hm with rfl | rfl <;> exact Nat.le_trans (gap_len _ _ _ _ _ _) (by omega)
  | best a b time =>
    rcases List.mem_append.mp hm with z | z
    · obtain ⟨run, _, rfl⟩ := List.mem_map.mp z
      exact Nat.le_trans (span_len _ _ _ _ _ _) (by omega)
    · rw [List.mem_singleton] at z
      subst z
      exact Nat.le_trans (best_len p a b (fun _ => some (time + 1)) (fun _ => none) r) (by omega)
theorem isnot_rows (T : List (List Int)) : opIsNot (mkRows T) .non = some (.bl true) := rfl
def P_breaking (m : FM) : Prop := ∀ (r p : Nat) (t : D) (ts : List FW.Tel) (x : FW.Tel), InR r p ts → x.Ok r p → m [bk r p t, tsD ts, enT x] none = .ok (optT (FW.breaking r p ts x)) none
theorem ok_breaking (B : Bl mg) (h_against : ∃ m, Has P w K mg base 3 "against" p_against m ∧ P_against m) (h_first_truth : ∃ m, Has P w K mg base 6 "first_truth" p_first_truth m ∧ P_first m) (Th : There K mg "breaking" s_breaking p_breaking) :
    ∃ m, Has P w K mg base 7 "breaking" p_breaking m ∧ P_breaking m := by
  obtain ⟨m1, h_against, pa⟩ := h_against
  obtain ⟨m2, h_first_truth, pf⟩ := h_first_truth
  refine ⟨_, has_any Th sc_breaking fun f cdv A outer s H E hr tk hp => (dss_cons (ds_for hp rfl (di_seq (dc h_against tk (hr.mono (by decide)) (da_cons (de_v 0) (da_cons (de_v 2) da_nil)))) (dg_v 3 sc_breaking.nd) (dss_cons (ds_set 4 sc_breaking.nd (dc h_first_truth tk (hr.mono (by decide)) (da_cons (de_v 0) (da_cons (de_v 1) (da_cons (de_v 3) da_nil)))))
      (dss_one (ds_if (dt_cmp od_isnot (de_v 4) de_non (nomark _)) (dss_one (ds_ret (de_v 4))) dss_nil))))
    (dss_one (ds_ret de_non))), ?_⟩
  intro r p t ts x hi ok
  have c1 : ∀ s, callP m1 2 [bk r p t, enT x] s = .ok (.lst ((FW.against r p x).map bdsD)) s := fun s => by simp [callP, pa r p t x hi.r4 hi.p4 ok]
  simp [c1]
  generalize hf : forL _ _ _ _ = q
  let st : Option Sl × Option Sl → S := fun a => ⟨[some (Sl.val (bk r p t)), some (Sl.val (tsD ts)), some (Sl.val (enT x)), a.1, a.2], none⟩
  have key : Fnd mkRows st (FW.breaking r p ts x) q := by
    rw [← hf]; clear hf
    unfold FW.breaking
    refine forL_find bdsD mkRows st (fun more => FW.firstTruth r p ts more) (FW.against r p x) (none, none) ?_
    rintro more hm ⟨o3, o4⟩
    have c2 : ∀ s, callP m2 3 [bk r p t, tsD ts, bdsD more] s = .ok (optT (FW.firstTruth r p ts more)) s := fun s => by simp [callP, pf r p t ts more hi (FW.fit_against ok more hm) (against_len hi.r4 more hm)]
    refine ⟨_, rfl, ?_⟩
    cases hF : FW.firstTruth r p ts more with
    | none =>
      rw [hF] at c2
      simp only [optT] at c2
      refine ⟨(some (.val (bdsD more)), some (.val .non)), ?_⟩
      simp [st, c2, isnot_nn]
    | some y =>
      rw [hF] at c2
      simp only [optT] at c2
      refine ⟨_, by simp [st, c2, isnot_rows]; rfl, rfl⟩
  cases hb : FW.breaking r p ts x with
  | none =>
    rw [hb] at key
    obtain ⟨a, rfl⟩ := key
    simp [st, optT]
  | some y =>
    rw [hb] at key
    obtain ⟨s', rfl, e⟩ := key
    simp [optT, e]
end
end Z

namespace Z
open PySem PySem.Spec PyProof.Rows L2 DL
section
variable {P : Program} {w : World} {K : PySem.W.Frag} {mg : Str → Option Value} {base : Heap}
/-! ## needless -/
def needlessAt (r p : Nat) (ts : List FW.Tel) (at' : Nat) : Bool := match ts[at']? with
  | some x => (FW.breaking r p (ts.take at' ++ ts.drop (at' + 1)) x).isNone
  | none => false
def needlessL (r p : Nat) (ts : List FW.Tel) : List Nat := (List.range ts.length).filter (needlessAt r p ts)
def natL (l : List Nat) : D := .lst (l.map fun k : Nat => .int (k : Int))
theorem InR.less {r p : Nat} {ts : List FW.Tel} (h : InR r p ts) (i : Nat) : InR r p (ts.take i ++ ts.drop (i + 1)) := by
  have sub : (ts.take i ++ ts.drop (i + 1)).Sublist ts := by
    have := List.Sublist.append (List.Sublist.refl (ts.take i)) (List.drop_sublist_drop_left ts (show i ≤ i + 1 by omega))
    rwa [List.take_append_drop] at this
  exact ⟨h.r4, h.p1, h.p4, fun x hx => h.ok x (sub.subset hx), Nat.le_trans sub.length_le h.len, Nat.le_trans (sub.filter _).length_le h.few⟩
theorem is_optT (o : Option (List (List Int))) : opIs (optT o) .non = some (.bl o.isNone) := by cases o <;> rfl
def P_needless (m : FM) : Prop := ∀ (r p : Nat) (ts : List FW.Tel), InR r p ts → m [bk r p (tsD ts)] none = .ok (natL (needlessL r p ts)) none
theorem ok_needless_of (B : Bl mg) (h_breaking : ∃ m, Has P w K mg base 7 "breaking" p_breaking m ∧ P_breaking m) (Th : There K mg "needless_of" s_needless_of p_needless_of) : ∃ m, Has P w K mg base 8 "needless_of" p_needless_of m ∧ P_needless m := by
  obtain ⟨m1, h_breaking, pb⟩ := h_breaking
  refine ⟨_, has_any Th sc_needless_of fun f cdv A outer s H E hr tk hp => (dss_cons (ds_own 1 sc_needless_of.nd da_nil)
    (dss_cons (ds_for hp rfl (di_range1 rfl B.range (da_cons (de_callB cd_len B.len PySem.boot_len (da_cons (de_ix (de_v 0) de_int) da_nil)) da_nil)) (dg_v 2 sc_needless_of.nd) (dss_one (ds_if (dt_cmp od_is (dc h_breaking tk (hr.mono (by decide)) (da_cons (de_v 0) (da_cons (de_op od_add (de_sl (de_ix (de_v 0) de_int) do_none (do_some (de_v 2))) (de_sl (de_ix (de_v 0) de_int) (do_some (de_op od_add (de_v 2) de_int)) do_none)) (da_cons (de_ix (de_ix (de_v 0) de_int) (de_v 2)) da_nil)))) de_non (nomark _)) (dss_one (ds_append 1 (de_v 2))) dss_nil)))
    (dss_one (ds_ret (de_v 1))))), ?_⟩
  intro r p ts hi
  have i2 : opIx (bk r p (tsD ts)) (.int 2) = some (tsD ts) := rfl
  obtain ⟨L0, hL⟩ : ∃ L0 : Int, L0 = (ts.length : Int) := ⟨_, rfl⟩
  have hl := hi.len
  have ln : DL.gLen [tsD ts] = some (.int L0) := by
    rw [hL]
    show some (D.int ((ts.map enT).length : Int)) = _
    rw [List.length_map]
  have q1 : ∀ s, toR1 [.int L0] s = .ok (rngI 0 L0) s := fun s => by rw [hL]; exact toR1_n (by omega)
  simp [i2, ln, q1]
  rw [hL]
  generalize hf : forL _ _ _ _ = q
  let st : List Nat × Option Sl → S := fun a => ⟨[some (Sl.val (bk r p (tsD ts))), some (Sl.own (a.1.map fun k : Nat => .int (k : Int))), a.2], none⟩
  have key : ∃ a, q = .next (st a) ∧ a.1 = needlessL r p ts := by
    rw [← hf]; clear hf
    refine forL_rng st (fun k a => a.1 = (List.range k).filter (needlessAt r p ts)) ts.length ([], none) rfl ?_
    rintro i ⟨l, o2⟩ hi2 hl2
    dsimp only at hl2
    have ex : ts[i]? = some ts[i] := List.getElem?_eq_getElem hi2
    have ll : l.length < sizeLine := size_k (by
      rw [hl2]
      have := List.length_filter_le (needlessAt r p ts) (List.range i)
      simp at this
      omega)
    have c1 : ∀ s, callP m1 3 [bk r p (tsD ts), tsD (ts.take i ++ ts.drop (i + 1)), enT ts[i]] s = .ok (optT (FW.breaking r p (ts.take i ++ ts.drop (i + 1)) ts[i])) s := fun s => by
      simp [callP, pb r p (tsD ts) _ _ (hi.less i) (hi.ok _ (List.getElem_mem hi2))]
    have s1 : opSl (tsD ts) none (some (i : Int)) = some (tsD (ts.take i)) := by
      show some (D.tup (cutG (ts.map enT) none (some (i : Int)))) = _
      rw [cutG_map, cut_to]
      rfl
    have s2 : opSl (tsD ts) (some ((i : Int) + 1)) none = some (tsD (ts.drop (i + 1))) := by
      show some (D.tup (cutG (ts.map enT) (some ((i : Int) + 1)) none)) = _
      rw [cutG_map, show (i : Int) + 1 = ((i + 1 : Nat) : Int) by omega, cut_from]
      rfl
    have s3 : opAdd (tsD (ts.take i)) (tsD (ts.drop (i + 1))) = some (tsD (ts.take i ++ ts.drop (i + 1))) := by
      unfold tsD
      rw [add_tup (by simp; omega), List.map_append]
    have s4 : opIx (tsD ts) (.int (i : Int)) = some (enT ts[i]) := by
      unfold tsD
      rw [ix_tup', at_n, List.getElem?_map, ex]
      rfl
    refine ⟨_, rfl, fun I hI => ?_⟩
    have hn : needlessAt r p ts i = (FW.breaking r p (ts.take i ++ ts.drop (i + 1)) ts[i]).isNone := by unfold needlessAt; rw [ex]
    have e := is_optT (FW.breaking r p (ts.take i ++ ts.drop (i + 1)) ts[i])
    rw [← hn] at e
    have next : (List.range (i + 1)).filter (needlessAt r p ts) = if needlessAt r p ts i = true then l ++ [i] else l := by
      rw [List.range_succ, List.filter_append, ← hl2]
      cases hc : needlessAt r p ts i with
      | true => simp only [List.filter_cons, hc, if_true, List.filter_nil]
      | false => simp only [List.filter_cons, hc, Bool.false_eq_true, if_false, List.filter_nil, List.append_nil]
    cases hb : needlessAt r p ts i with
    | true =>
      rw [hb] at e next
      rw [if_pos rfl] at next
      simp [st, i2, s1, s2, s3, s4, c1, e, isOwn, apnd, ll]
      have := hI (l ++ [i], some (.val (.int (i : Int)))) next.symm
      simpa [st] using this
    | false =>
      rw [hb] at e next
      rw [if_neg (by simp)] at next
      simp [st, i2, s1, s2, s3, s4, c1, e]
      exact hI (l, some (.val (.int (i : Int)))) next.symm
  obtain ⟨⟨l, o2⟩, rfl, hl2⟩ := key
  dsimp only at hl2
  subst hl2
  simp [st, natL]
end
end Z

namespace Z
open PySem PySem.Spec PyProof.Rows L2 DL
section
variable {P : Program} {w : World} {K : PySem.W.Frag} {mg : Str → Option Value} {base : Heap}
/-! ## the methods of a desk -/
/-- how a method stands -/
def MThere (K : PySem.W.Frag) (x q : Str) (st : Stmt) (ps : List Str) : Prop := ∃ f fd, Fun K x q st f fd ∧ Meth K objC x f ∧ Binds K fd ps []
theorem has_o {x q : Str} {st : Stmt} {N ps : List Str} {k : Nat} {f' : S → T} (T : MThere K x q st ps) (Sc : FnScope N ps (defScope st))
    (body : ∀ (f : Addr) (cdv : Value) (A : Around) (outer : List Env) (s : Shared) (H : Hp) (E : XK), Room k (A.deeper (envOfC q (defScope st) s.heap.objs.size f cdv)) → Takes (cxOf (L2.CX P w) P w K mg base N q (defScope st) f cdv A outer s H E) (fun cls d _ H => E cls d H) → PassesOwn (model (cxOf (L2.CX P w) P w K mg base N q (defScope st) f cdv A outer s H E).prog (cxOf (L2.CX P w) P w K mg base N q (defScope st) f cdv A outer s H E).w) (cxOf (L2.CX P w) P w K mg base N q (defScope st) f cdv A outer s H E).A (cxOf (L2.CX P w) P w K mg base N q (defScope st) f cdv A outer s H E).env (cxOf (L2.CX P w) P w K mg base N q (defScope st) f cdv A outer s H E).xe →
      DSs (cxOf (L2.CX P w) P w K mg base N q (defScope st) f cdv A outer s H E) (fun cls d _ H => E cls d H) (defBody st) f') :
    HasO P w K mg base (k + 1) x ps (fun n p ds => (f' (stO N n p ds)).finO) := by
  obtain ⟨f, fd, F, M, b⟩ := T
  exact ⟨f, fd, fn_o F Sc fun cdv A outer s H E hr => body f cdv A outer s H E hr tkX hpX, M, b⟩
structure Xl (K : PySem.W.Frag) (mg : Str → Option Value) : Type where
  C_InvalidBook : Addr
  X_InvalidBook : ExC K mg "InvalidBook" C_InvalidBook
  C_InvalidTelling : Addr
  X_InvalidTelling : ExC K mg "InvalidTelling" C_InvalidTelling
  C_InvalidIndex : Addr
  X_InvalidIndex : ExC K mg "InvalidIndex" C_InvalidIndex
  C_NoTruth : Addr
  X_NoTruth : ExC K mg "NoTruth" C_NoTruth
  C_NothingToUndo : Addr
  X_NothingToUndo : ExC K mg "NothingToUndo" C_NothingToUndo
/-- a desk's past, as a list of tellings -/
def pastD (r p : Nat) (l : List (List FW.Tel)) : D := .tup (l.map fun ts => bk r p (tsD ts))
theorem enT_okd (x : FW.Tel) (n : Nat) : okd (n + 1) (enT x) = true := by cases x <;> simp [enT, okd, ok_best, ok_span, ok_gap]
theorem tsD_okd (ts : List FW.Tel) (n : Nat) : okd (n + 2) (tsD ts) = true := by
  unfold tsD
  simp only [okd, List.all_map, List.all_eq_true]
  exact fun x _ => enT_okd x n
theorem bk_okd (r p n : Nat) (ts : List FW.Tel) : okd (n + 3) (bk r p (tsD ts)) = true := by
  unfold bk
  simp only [okd, List.all_cons, List.all_nil, Bool.and_true, Bool.true_and]
  exact tsD_okd ts n
theorem pastD_okd (r p : Nat) (l : List (List FW.Tel)) : okd 60 (pastD r p l) = true := by
  unfold pastD
  simp only [okd, List.all_map, List.all_eq_true]
  exact fun x _ => bk_okd r p 56 x
theorem pastD_add (r p : Nat) (l : List (List FW.Tel)) (ts : List FW.Tel) (h : l.length ≤ 200) : opAdd (pastD r p l) (.tup [bk r p (tsD ts)]) = some (pastD r p (l ++ [ts])) := by
  unfold pastD
  rw [add_tup (by simp; omega), List.map_append]
  rfl
theorem atI_last (xs : List D) (b : D) : atI (xs ++ [b]) (-1) = some b := by
  unfold atI ixN
  have h : (xs ++ [b]).length = xs.length + 1 := by simp
  rw [h, if_neg (by decide), if_pos (by omega)]
  have : ((-1 : Int) + ((xs.length + 1 : Nat) : Int)).toNat = xs.length := by omega
  rw [this]
  simp
theorem cutG_last (xs : List D) (b : D) : cutG (xs ++ [b]) none (some (-1)) = xs := by
  have h : (xs ++ [b]).length = xs.length + 1 := by simp
  unfold cutG
  rw [h]
  have h1 : HT.sIx (xs.length + 1) 0 none = 0 := rfl
  have h2 : HT.sIx (xs.length + 1) (xs.length + 1) (some (-1)) = xs.length := by
    unfold HT.sIx
    simp
    omega
  rw [h1, h2]
  simp
def P_len (m : FMo) : Prop := ∀ (n : D) (r p : Nat) (l : List (List FW.Tel)), m n (pastD r p l) [] = .ok (.int (l.length : Int)) n (pastD r p l)
theorem ok_len (oc : OC K) (B : Bl mg) (T : MThere K "__len__" "Desk.__len__" s_Desk___len__ p_Desk___len__) : ∃ m, HasO P w K mg base 1 "__len__" ["self"] m ∧ P_len m := by
  refine ⟨_, has_o T sc_Desk___len__ fun f cdv A outer s H E hr tk hp => (dss_one (ds_ret (de_callB cd_len B.len PySem.boot_len (da_cons (de_fldO 0 true oc) da_nil)))), ?_⟩
  intro n r p l
  simp [stO, fldO, pastD]
structure P_undo (m : FMo) : Prop where
  no : ∀ (n : D) (r p : Nat), m n (pastD r p []) [] = .exc "NothingToUndo" none n (pastD r p [])
  one : ∀ (n : D) (r p : Nat) (l : List (List FW.Tel)) (ts : List FW.Tel), m n (pastD r p (l ++ [ts])) [] = .ok .non (bk r p (tsD ts)) (pastD r p l)
theorem ok_undo (oc : OC K) (B : Bl mg) (XB : Xl K mg) (T : MThere K "undo" "Desk.undo" s_Desk_undo p_Desk_undo) : ∃ m, HasO P w K mg base 1 "undo" ["self"] m ∧ P_undo m := by
  refine ⟨_, has_o T sc_Desk_undo fun f cdv A outer s H E hr tk hp => (dss_cons (ds_if (dt_cmp (od_eq hr) (de_fldO 0 true oc) (de_tup da_nil) (nomark _)) (dss_one (ds_raise XB.X_NothingToUndo tk)) dss_nil)
    (dss_cons (ds_fldO 0 false oc (de_ix (de_fldO 0 true oc) (de_neg de_int)))
    (dss_one (ds_fldO 0 true oc (de_sl (de_fldO 0 true oc) do_none (do_some (de_neg de_int))))))), ?_, ?_⟩
  · intro n r p
    have e : opEq (pastD r p []) (.tup []) = some (.bl true) := by rw [eq_okd (pastD_okd r p []) (by rfl)]; rfl
    simp [stO, fldO, setO, e]
  · intro n r p l ts
    have e : opEq (pastD r p (l ++ [ts])) (.tup []) = some (.bl false) := by
      rw [eq_okd (pastD_okd r p _) (by rfl)]
      unfold pastD
      rw [List.map_append]
      cases l <;> rfl
    have e1 : opIx (pastD r p (l ++ [ts])) (.int (-1)) = some (bk r p (tsD ts)) := by
      unfold pastD
      rw [List.map_append]
      exact atI_last _ _
    have e2 : opSl (pastD r p (l ++ [ts])) none (some (-1)) = some (pastD r p l) := by
      unfold pastD
      rw [List.map_append, sl_tup', List.map_singleton, cutG_last]
    simp [stO, fldO, setO, e, e1, e2]
end
end Z

namespace Z
open PySem PySem.Spec PyProof.Rows L2 DL
section
variable {P : Program} {w : World} {K : PySem.W.Frag} {mg : Str → Option Value} {base : Heap}
/-! ## after -/
def noB (ts : List FW.Tel) : Prop := ∀ x ∈ ts, x.isBest = false
theorem noB_one {ts : List FW.Tel} (h : noB ts) {x : FW.Tel} (hx : x ∈ ts) : opIx (enT x) (.int 0) = some (.str "span") ∨ opIx (enT x) (.int 0) = some (.str "gap") := by
  have := h x hx
  cases x with
  | span => exact .inl rfl
  | gap => exact .inr rfl
  | best => cases this
theorem tables_okd (l : List FW.G) : okd 60 (.lst (l.map gridD)) = true := by
  simp only [okd, List.all_map, List.all_eq_true]
  exact fun g _ => grid_okd g
theorem tables_nil (l : List FW.G) : opEq (.lst (l.map gridD)) (.lst []) = some (.bl (l == [])) := by
  rw [eq_okd (tables_okd l) (by rfl)]
  cases l <;> rfl
structure P_after (m : FMo) : Prop where
  good : ∀ (n q : D) (r p : Nat) (ts : List FW.Tel) (x : FW.Tel), InR r p (ts ++ [x]) → ts.length ≤ 6 → noB (ts ++ [x]) → FW.tablesOf r p (ts ++ [x]) [] ≠ [] → m n q [bk r p (tsD ts), enT x] = .ok (bk r p (tsD (ts ++ [x]))) n q
  none_ : ∀ (n q : D) (r p : Nat) (ts : List FW.Tel) (x : FW.Tel), InR r p (ts ++ [x]) → FW.tablesOf r p (ts ++ [x]) [] = [] → m n q [bk r p (tsD ts), enT x] = .exc "NoTruth" none n q
theorem ok_after (oc : OC K) (B : Bl mg) (XB : Xl K mg) {u : Value} (hMOST : Con K objC "MOST" (.int 8) u) (h_tables_of : ∃ m, Has P w K mg base 5 "tables_of" p_tables_of m ∧ P_tables m)
    (T : MThere K "after" "Desk.after" s_Desk_after p_Desk_after) : ∃ m, HasO P w K mg base 6 "after" ["self", "state", "telling"] m ∧ P_after m := by
  obtain ⟨m1, h_tables_of, pt⟩ := h_tables_of
  refine ⟨_, has_o T sc_Desk_after fun f cdv A outer s H E hr tk hp => (dss_cons (ds_set 3 sc_Desk_after.nd (de_op od_add (de_sl (de_v 1) do_none (do_some de_int)) (de_tup (da_cons (de_op od_add (de_ix (de_v 1) de_int) (de_tup (da_cons (de_v 2) da_nil))) da_nil))))
    (dss_cons (ds_if (dt_cmp (od_eq hr) (dc h_tables_of tk (hr.mono (by decide)) (da_cons (de_v 3) (da_cons (de_ix (de_v 3) de_int) (da_cons (de_lst da_nil) da_nil)))) (de_lst da_nil) (nomark _)) (dss_one (ds_raise XB.X_NoTruth tk)) dss_nil)
    (dss_cons (ds_if (dt_cmp od_gt (de_callB cd_len B.len PySem.boot_len (da_cons (de_ix (de_v 3) de_int) da_nil)) (de_conO 0 oc hMOST) (nomark _)) (dss_one ds_never) dss_nil)
    (dss_cons (ds_if (dt_cmp od_gt (de_callB cd_len B.len PySem.boot_len (da_cons (de_lc [4] rfl sc_Desk_after.nd (di_seq (de_ix (de_v 3) de_int)) (blkOk_by (own := [("one", 4)]) (N := n_Desk_after) (sc := defScope s_Desk_after) (by decide +kernel)) (fun _ _ _ _ _ => (dgw_v 4 sc_Desk_after.nd)) (fun _ _ _ _ _ => (dts_one (dt_cmp (od_eq hr) (de_ix (de_v 4) de_int) de_str (nomark _)))) (fun _ _ _ _ _ => (de_v 4))) da_nil)) (dgi B.MOST_BESTS) (nomark _)) (dss_one ds_never) dss_nil)
    (dss_one (ds_ret (de_v 3))))))), ?_, ?_⟩
  · intro n q r p ts x hi hl nb ht
    have e1 : opSl (bk r p (tsD ts)) none (some 2) = some (.tup [.int (r : Int), .int (p : Int)]) := rfl
    have e2 : opIx (bk r p (tsD ts)) (.int 2) = some (tsD ts) := rfl
    have e3 : opAdd (tsD ts) (.tup [enT x]) = some (tsD (ts ++ [x])) := by
      unfold tsD
      rw [add_tup (by simp; omega), List.map_append]
      rfl
    have e4 : ∀ d : D, opAdd (.tup [.int (r : Int), .int (p : Int)]) (.tup [d]) = some (bk r p d) := fun d => by
      rw [add_tup (by simp)]
      rfl
    have e5 : opIx (bk r p (tsD (ts ++ [x]))) (.int 2) = some (tsD (ts ++ [x])) := rfl
    have e6 : ∀ s, callP m1 3 [bk r p (tsD (ts ++ [x])), tsD (ts ++ [x]), .lst []] s = .ok (.lst ((FW.tablesOf r p (ts ++ [x]) []).map gridD)) s := fun s => by
      have := pt r p (tsD (ts ++ [x])) (ts ++ [x]) [] hi.r4 hi.p4 hi.ok hi.len hi.few (by intro b hb; cases hb) (by simp)
      rw [show bdsD [] = D.lst [] from rfl] at this
      simp [callP, this]
    have e7 : (FW.tablesOf r p (ts ++ [x]) [] == []) = false := by simpa using ht
    have e8 : gLen [tsD (ts ++ [x])] = some (.int ((ts ++ [x]).length : Int)) := by
      show some (D.int (((ts ++ [x]).map enT).length : Int)) = _
      rw [List.length_map]
    have e9 : ¬ (8 : Int) < ((ts ++ [x]).length : Int) := by simp; omega
    have e10 : ∀ s, asSeq (tsD (ts ++ [x])) s = .ok ((ts ++ [x]).map enT) s := fun _ => rfl
    simp [-List.length_append, -List.map_append, stO, conO, e1, e2, e3, e4, e5, e6, e8, e9, e10, tables_nil, e7]
    rw [compL_map (tb := fun _ => false) (fd := id)]
    case h =>
      intro d hd
      obtain ⟨y, hy, rfl⟩ := List.mem_map.mp hd
      refine ⟨_, rfl, ?_, (fun z => by cases z), rfl⟩
      rcases noB_one nb hy with e | e
      · simp [e, eq_str' ok_span ok_best, sb_ne]
      · simp [e, eq_str' ok_gap ok_best, gb_ne]
    have nof : ∀ l : List D, List.filter (fun _ => false) l = [] := fun l => by simp
    rw [nof]
    simp [S.wipe]
  · intro n q r p ts x hi ht
    have e1 : opSl (bk r p (tsD ts)) none (some 2) = some (.tup [.int (r : Int), .int (p : Int)]) := rfl
    have e2 : opIx (bk r p (tsD ts)) (.int 2) = some (tsD ts) := rfl
    have e3 : opAdd (tsD ts) (.tup [enT x]) = some (tsD (ts ++ [x])) := by
      have := hi.len
      unfold tsD
      rw [add_tup (by simp at this ⊢; omega), List.map_append]
      rfl
    have e4 : ∀ d : D, opAdd (.tup [.int (r : Int), .int (p : Int)]) (.tup [d]) = some (bk r p d) := fun d => by
      rw [add_tup (by simp)]
      rfl
    have e5 : opIx (bk r p (tsD (ts ++ [x]))) (.int 2) = some (tsD (ts ++ [x])) := rfl
    have e6 : ∀ s, callP m1 3 [bk r p (tsD (ts ++ [x])), tsD (ts ++ [x]), .lst []] s = .ok (.lst ((FW.tablesOf r p (ts ++ [x]) []).map gridD)) s := fun s => by
      have := pt r p (tsD (ts ++ [x])) (ts ++ [x]) [] hi.r4 hi.p4 hi.ok hi.len hi.few (by intro b hb; cases hb) (by simp)
      rw [show bdsD [] = D.lst [] from rfl] at this
      simp [callP, this]
    have e7 : (FW.tablesOf r p (ts ++ [x]) [] == []) = true := by simpa using ht
    simp [stO, conO, e1, e2, e3, e4, e5, e6, tables_nil, e7]
/-! ## tell -/
/-- how a def of an object and more stands -/
structure SThere (K : PySem.W.Frag) (x q : Str) (st : Stmt) (p0 pv : Str) (f : Addr) (oc : Value) (od an : Option Addr) (osl : Array (Option Value)) (kV doc pm cdv ct : Value) : Prop where
  lk : K.lookup f = some ⟨oc, od, .func (PySem.W.fnOf x q (defArgs st) (defBody st) (defScope st) .none kV doc pm an cdv ct), osl⟩
  hcd : PySem.W.codeIn K cdv q = true
  hb : ∀ us rest : List Value, us.length = [p0].length → bindArgs (PySem.W.fnOf x q (defArgs st) (defBody st) (defScope st) .none kV doc pm an cdv ct) ⟨us ++ rest, []⟩ = (newTuple rest >>= fun t => pure ([p0].zip us ++ [(pv, t)]))
  me : Meth K objC x f
theorem has_star {x q : Str} {st : Stmt} {N : List Str} {p0 pv : Str} {k : Nat} {f' : S → T} {f : Addr} {o1 : Value} {od an : Option Addr} {osl : Array (Option Value)} {kV doc pm cdv ct : Value} (T : SThere K x q st p0 pv f o1 od an osl kV doc pm cdv ct) (Sc : FnScope N [p0, pv] (defScope st))
    (body : ∀ (f : Addr) (cdv : Value) (A : Around) (outer : List Env) (s : Shared) (H : Hp) (E : XK), Room k (A.deeper (envOfC q (defScope st) s.heap.objs.size f cdv)) → Takes (cxOf (L2.CX P w) P w K mg base N q (defScope st) f cdv A outer s H E) (fun cls d _ H => E cls d H) → PassesOwn (model (cxOf (L2.CX P w) P w K mg base N q (defScope st) f cdv A outer s H E).prog (cxOf (L2.CX P w) P w K mg base N q (defScope st) f cdv A outer s H E).w) (cxOf (L2.CX P w) P w K mg base N q (defScope st) f cdv A outer s H E).A (cxOf (L2.CX P w) P w K mg base N q (defScope st) f cdv A outer s H E).env (cxOf (L2.CX P w) P w K mg base N q (defScope st) f cdv A outer s H E).xe →
      DSs (cxOf (L2.CX P w) P w K mg base N q (defScope st) f cdv A outer s H E) (fun cls d _ H => E cls d H) (defBody st) f') :
    HasOR P w K mg base (k + 1) x (fun n p ds => (f' (stO N n p ds)).finO) :=
  ⟨f, fn_oStar T.lk T.hcd Sc T.hb fun A outer s H E hr => body f cdv A outer s H E hr tkX hpX, T.me⟩
structure P_tell (m : FMo) : Prop where
  good : ∀ (r p : Nat) (ts : List FW.Tel) (l : List (List FW.Tel)) (run a b lo hi : Nat), r ≤ 3 → InR r p (ts ++ [.span run a b lo hi]) → ts.length ≤ 6 → l.length ≤ 200 → noB (ts ++ [.span run a b lo hi]) → FW.tablesOf r p (ts ++ [.span run a b lo hi]) [] ≠ [] →
    ∃ c, m (bk r p (tsD ts)) (pastD r p l) [enT (.span run a b lo hi)] = .ok c (bk r p (tsD (ts ++ [.span run a b lo hi]))) (pastD r p (l ++ [ts]))
  none_ : ∀ (r p : Nat) (ts : List FW.Tel) (l : List (List FW.Tel)) (run a b lo hi : Nat), r ≤ 3 → InR r p (ts ++ [.span run a b lo hi]) → FW.tablesOf r p (ts ++ [.span run a b lo hi]) [] = [] →
    m (bk r p (tsD ts)) (pastD r p l) [enT (.span run a b lo hi)] = .exc "NoTruth" none (bk r p (tsD ts)) (pastD r p l)
  bad : ∀ (r p : Nat) (ts : List FW.Tel) (l : List (List FW.Tel)), m (bk r p (tsD ts)) (pastD r p l) [.tup [.str "span"]] = .exc "InvalidTelling" none (bk r p (tsD ts)) (pastD r p l)
theorem span_tells {r p run a b lo hi : Nat} (h : FW.Tel.Ok r p (.span run a b lo hi)) : tellsB (r : Int) (p : Int) (enT (.span run a b lo hi)) = true := by
  obtain ⟨h1, h2, h3, _, h5, h6⟩ := h
  simp [enT, tellsB, isI, gtI, geI, sb_ne]
  omega
theorem ok_tell (oc : OC K) (B : Bl mg) (XB : Xl K mg) (h_tells : Has P w K mg base 2 "tells" p_tells m_tells) (h_after : ∃ m, HasO P w K mg base 6 "after" ["self", "state", "telling"] m ∧ P_after m)
    (h_needless_of : ∃ m, Has P w K mg base 8 "needless_of" p_needless_of m ∧ P_needless m) {f : Addr} {o1 : Value} {od an : Option Addr} {osl : Array (Option Value)} {kV doc pm cdv ct : Value}
    (T : SThere K "tell" "Desk.tell" s_Desk_tell "self" "items" f o1 od an osl kV doc pm cdv ct) : ∃ m, HasOR P w K mg base 9 "tell" m ∧ P_tell m := by
  obtain ⟨m1, h_after, pa⟩ := h_after
  obtain ⟨m2, h_needless_of, pn⟩ := h_needless_of
  refine ⟨_, has_star T sc_Desk_tell fun f cdv A outer s H E hr tk hp => (dss_cons (ds_if (dt_not (dt_val (dc h_tells tk (hr.mono (by decide)) (da_cons (de_ix (de_fldO 0 false oc) de_int) (da_cons (de_ix (de_fldO 0 false oc) de_int) (da_cons (de_v 1) da_nil)))))) (dss_one (ds_raise XB.X_InvalidTelling tk)) dss_nil)
    (dss_cons (ds_set 2 sc_Desk_tell.nd (de_methO 0 oc h_after tk (hr.mono (by decide)) (da_cons (de_fldO 0 false oc) (da_cons (de_v 1) da_nil))))
    (dss_cons (ds_fldO 0 true oc (de_op od_add (de_fldO 0 true oc) (de_tup (da_cons (de_fldO 0 false oc) da_nil))))
    (dss_cons (ds_fldO 0 false oc (de_v 2))
    (dss_one (ds_ret (de_callB cd_len B.len PySem.boot_len (da_cons (dc h_needless_of tk (hr.mono (by decide)) (da_cons (de_v 2) da_nil)) da_nil)))))))), ?_, ?_, ?_⟩
  · intro r p ts l run a b lo hi r3 hi' hl hl2 nb ht
    have ok1 := hi'.ok (.span run a b lo hi) (by simp)
    have e0 : opIx (bk r p (tsD ts)) (.int 0) = some (.int (r : Int)) := rfl
    have e1 : opIx (bk r p (tsD ts)) (.int 1) = some (.int (p : Int)) := rfl
    have e2 : ∀ s, callP m_tells 3 [.int (r : Int), .int (p : Int), enT (.span run a b lo hi)] s = .ok (.bl true) s := fun s => by
      rw [cp_tells (enT_okd _ 59), span_tells ok1]
    have e3 := pa.good (bk r p (tsD ts)) (pastD r p l) r p ts _ hi' hl nb ht
    have e4 := pastD_add r p l ts hl2
    have e5 : ∀ s, callP m2 1 [bk r p (tsD (ts ++ [.span run a b lo hi]))] s = .ok (natL (needlessL r p (ts ++ [.span run a b lo hi]))) s := fun s => by
      simp [callP, pn r p _ hi']
    exact ⟨_, by simp [stO, fldO, setO, callO, e0, e1, e2, e3, e4, e5, natL, gLen]; rfl⟩
  · intro r p ts l run a b lo hi r3 hi' ht
    have ok1 := hi'.ok (.span run a b lo hi) (by simp)
    have e0 : opIx (bk r p (tsD ts)) (.int 0) = some (.int (r : Int)) := rfl
    have e1 : opIx (bk r p (tsD ts)) (.int 1) = some (.int (p : Int)) := rfl
    have e2 : ∀ s, callP m_tells 3 [.int (r : Int), .int (p : Int), enT (.span run a b lo hi)] s = .ok (.bl true) s := fun s => by
      rw [cp_tells (enT_okd _ 59), span_tells ok1]
    have e3 := pa.none_ (bk r p (tsD ts)) (pastD r p l) r p ts _ hi' ht
    simp [stO, fldO, setO, callO, e0, e1, e2, e3]
  · intro r p ts l
    have e0 : opIx (bk r p (tsD ts)) (.int 0) = some (.int (r : Int)) := rfl
    have e1 : opIx (bk r p (tsD ts)) (.int 1) = some (.int (p : Int)) := rfl
    have e2 : ∀ s, callP m_tells 3 [.int (r : Int), .int (p : Int), .tup [.str "span"]] s = .ok (.bl false) s := fun s => by
      rw [cp_tells (by decide +kernel)]
      rfl
    simp [stO, fldO, setO, callO, e0, e1, e2]
end
end Z

namespace Z
open PySem PySem.Spec PyProof.Rows L2 DL
section
variable {P : Program} {w : World} {K : PySem.W.Frag} {mg : Str → Option Value} {base : Heap}
/-! ## forget -/
structure P_forget (m : FMo) : Prop where
  good : ∀ (r p : Nat) (ts : List FW.Tel) (l : List (List FW.Tel)) (x : FW.Tel), ts.length ≤ 6 → l.length ≤ 200 →
    m (bk r p (tsD (ts ++ [x]))) (pastD r p l) [.int (ts.length : Int)] = .ok (enT x) (bk r p (tsD ts)) (pastD r p (l ++ [ts ++ [x]]))
  bad : ∀ (r p : Nat) (ts : List FW.Tel) (l : List (List FW.Tel)), ts.length ≤ 6 → m (bk r p (tsD ts)) (pastD r p l) [.int 99] = .exc "InvalidIndex" none (bk r p (tsD ts)) (pastD r p l)
theorem ok_forget (oc : OC K) (B : Bl mg) (XB : Xl K mg) (h_is_int : Has P w K mg base 1 "is_int" p_is_int m_is_int)
    (T : MThere K "forget" "Desk.forget" s_Desk_forget p_Desk_forget) : ∃ m, HasO P w K mg base 2 "forget" ["self", "index"] m ∧ P_forget m := by
  refine ⟨_, has_o T sc_Desk_forget fun f cdv A outer s H E hr tk hp => (dss_cons (ds_if (dt_not (dt_val (dc h_is_int tk (hr.mono (by decide)) (da_cons (de_v 1) (da_cons de_int (da_cons (de_op od_sub (de_callB cd_len B.len PySem.boot_len (da_cons (de_ix (de_fldO 0 false oc) de_int) da_nil)) de_int) da_nil)))))) (dss_one (ds_raise XB.X_InvalidIndex tk)) dss_nil)
    (dss_cons (ds_set 2 sc_Desk_forget.nd (de_ix (de_ix (de_fldO 0 false oc) de_int) (de_v 1)))
    (dss_cons (ds_fldO 0 true oc (de_op od_add (de_fldO 0 true oc) (de_tup (da_cons (de_fldO 0 false oc) da_nil))))
    (dss_cons (ds_fldO 0 false oc (de_op od_add (de_sl (de_fldO 0 false oc) do_none (do_some de_int)) (de_tup (da_cons (de_op od_add (de_sl (de_ix (de_fldO 0 false oc) de_int) do_none (do_some (de_v 1))) (de_sl (de_ix (de_fldO 0 false oc) de_int) (do_some (de_op od_add (de_v 1) de_int)) do_none)) da_nil))))
    (dss_one (ds_ret (de_v 2))))))), ?_, ?_⟩
  · intro r p ts l x hl hl2
    have e1 : ∀ l : List FW.Tel, opSl (bk r p (tsD l)) none (some 2) = some (.tup [.int (r : Int), .int (p : Int)]) := fun _ => rfl
    have e2 : ∀ l : List FW.Tel, opIx (bk r p (tsD l)) (.int 2) = some (tsD l) := fun _ => rfl
    have e4 : ∀ d : D, opAdd (.tup [.int (r : Int), .int (p : Int)]) (.tup [d]) = some (bk r p d) := fun d => by
      rw [add_tup (by simp)]
      rfl
    have e8 : ∀ l : List FW.Tel, gLen [tsD l] = some (.int (l.length : Int)) := fun l => by
      show some (D.int ((l.map enT).length : Int)) = _
      rw [List.length_map]
    have e9 : ∀ s, callP m_is_int 3 [.int (ts.length : Int), .int 0, .int (ts.length : Int)] s = .ok (.bl true) s := fun s => by
      rw [cp_is_int rfl]
      simp [isI]
    have e10 := pastD_add r p l (ts ++ [x]) hl2
    have e11 : opIx (tsD (ts ++ [x])) (.int (ts.length : Int)) = some (enT x) := by
      unfold tsD
      rw [ix_tup', at_n, List.getElem?_map]
      simp
    have e12 : opSl (tsD (ts ++ [x])) none (some (ts.length : Int)) = some (tsD ts) := by
      show some (D.tup (cutG ((ts ++ [x]).map enT) none (some (ts.length : Int)))) = _
      rw [cutG_map, cut_to]
      simp [tsD]
    have e13 : opSl (tsD (ts ++ [x])) (some ((ts.length : Int) + 1)) none = some (.tup []) := by
      show some (D.tup (cutG ((ts ++ [x]).map enT) (some ((ts.length : Int) + 1)) none)) = _
      rw [cutG_map, show (ts.length : Int) + 1 = ((ts.length + 1 : Nat) : Int) by omega, cut_from]
      simp
    have e14 : opAdd (tsD ts) (.tup []) = some (tsD ts) := by
      unfold tsD
      rw [add_tup (by simp; omega), List.append_nil]
    simp [stO, fldO, setO, callO, e1, e2, e4, e8, e9, e10, e11, e12, e13, e14]
  · intro r p ts l hl
    have e2 : ∀ l : List FW.Tel, opIx (bk r p (tsD l)) (.int 2) = some (tsD l) := fun _ => rfl
    have e8 : ∀ l : List FW.Tel, gLen [tsD l] = some (.int (l.length : Int)) := fun l => by
      show some (D.int ((l.map enT).length : Int)) = _
      rw [List.length_map]
    have e9 : ∀ s, callP m_is_int 3 [.int 99, .int 0, .int ((ts.length : Int) - 1)] s = .ok (.bl false) s := fun s => by
      rw [cp_is_int rfl]
      simp [isI]
      omega
    simp [stO, fldO, setO, callO, e2, e8, e9]
theorem fn_self' {x q : Str} {st : Stmt} {N ps : List Str} {k : Nat} {f' : S → T} {f : Addr} {fd : FuncData} (F : Fun K x q st f fd) (Sc : FnScope N ps (defScope st))
    (body : ∀ (f : Addr) (cdv : Value) (A : Around) (outer : List Env) (s : Shared) (H : Hp) (E : XK), Room k (A.deeper (envOfC q (defScope st) s.heap.objs.size f cdv)) → Takes (cxOf (L2.CX P w) P w K mg base N q (defScope st) f cdv A outer s H E) (fun cls d _ H => E cls d H) → PassesOwn (model (cxOf (L2.CX P w) P w K mg base N q (defScope st) f cdv A outer s H E).prog (cxOf (L2.CX P w) P w K mg base N q (defScope st) f cdv A outer s H E).w) (cxOf (L2.CX P w) P w K mg base N q (defScope st) f cdv A outer s H E).A (cxOf (L2.CX P w) P w K mg base N q (defScope st) f cdv A outer s H E).env (cxOf (L2.CX P w) P w K mg base N q (defScope st) f cdv A outer s H E).xe →
      PSs (cxOf (L2.CX P w) P w K mg base N q (defScope st) f cdv A outer s H E) (defBody st) (tDSf (cxOf (L2.CX P w) P w K mg base N q (defScope st) f cdv A outer s H E) (fun cls d _ H => E cls d H) 0 f')) :
    FnO P w K mg base (k + 1) f fd ps (fun n p ds => (f' (stO N n p ds)).finS) := fn_self F Sc fun cdv A outer s H E hr => body f cdv A outer s H E hr tkX hpX
theorem fn_2' {x q : Str} {st : Stmt} {N ps : List Str} {k : Nat} {f' : S → T} {f : Addr} {fd : FuncData} (F : Fun K x q st f fd) (Sc : FnScope N ps (defScope st)) (hl : ps.length = 2)
    (body : ∀ (f : Addr) (cdv : Value) (A : Around) (outer : List Env) (s : Shared) (H : Hp) (E : XK), Room k (A.deeper (envOfC q (defScope st) s.heap.objs.size f cdv)) → Takes (cxOf (L2.CX P w) P w K mg base N q (defScope st) f cdv A outer s H E) (fun cls d _ H => E cls d H) → PassesOwn (model (cxOf (L2.CX P w) P w K mg base N q (defScope st) f cdv A outer s H E).prog (cxOf (L2.CX P w) P w K mg base N q (defScope st) f cdv A outer s H E).w) (cxOf (L2.CX P w) P w K mg base N q (defScope st) f cdv A outer s H E).A (cxOf (L2.CX P w) P w K mg base N q (defScope st) f cdv A outer s H E).env (cxOf (L2.CX P w) P w K mg base N q (defScope st) f cdv A outer s H E).xe →
      DSs (cxOf (L2.CX P w) P w K mg base N q (defScope st) f cdv A outer s H E) (fun cls d _ H => E cls d H) (defBody st) f') :
    Fn2 P w K mg base (k + 1) f fd ps (fun n p n' p' => (f' (st2 N n p n' p')).fin2) := fn_2 F Sc hl fun cdv A outer s H E hr => body f cdv A outer s H E hr tkX hpX
/-! ## += -/
structure P_iadd (m : FMo) : Prop where
  none_ : ∀ (r p : Nat) (ts : List FW.Tel) (l : List (List FW.Tel)), l.length ≤ 200 → m (bk r p (tsD ts)) (pastD r p l) [.tup []] = .self (bk r p (tsD ts)) (pastD r p (l ++ [ts]))
  one : ∀ (r p : Nat) (ts : List FW.Tel) (l : List (List FW.Tel)) (run a b lo hi : Nat), InR r p (ts ++ [.span run a b lo hi]) → ts.length ≤ 6 → l.length ≤ 200 → noB (ts ++ [.span run a b lo hi]) → FW.tablesOf r p (ts ++ [.span run a b lo hi]) [] ≠ [] →
    m (bk r p (tsD ts)) (pastD r p l) [.tup [enT (.span run a b lo hi)]] = .self (bk r p (tsD (ts ++ [.span run a b lo hi]))) (pastD r p (l ++ [ts]))
theorem ok_iadd (oc : OC K) (B : Bl mg) (XB : Xl K mg) (h_tells : Has P w K mg base 2 "tells" p_tells m_tells) (h_after : ∃ m, HasO P w K mg base 6 "after" ["self", "state", "telling"] m ∧ P_after m)
    {f : Addr} {fd : FuncData} (F : Fun K "__iadd__" "Desk.__iadd__" s_Desk___iadd__ f fd) (Ia : IaddO K f) (Bi : Binds K fd p_Desk___iadd__ []) : ∃ m, HasIa P w K mg base 7 ["self", "tellings"] m ∧ P_iadd m := by
  obtain ⟨m1, h_after, pa⟩ := h_after
  refine ⟨_, ⟨rfl, f, fd, fn_self' F sc_Desk___iadd__ fun f cdv A outer s H E hr tk hp => (dsf_cons (ds_if (dt_w (dw_or (dt_not (dt_val (de_isi "tuple" B.isinstance B.tuple PyProof.Rows.boot_tuple (de_v 1)))) (dw_or1 (dt_cmp od_gt (de_callB cd_len B.len PySem.boot_len (da_cons (de_v 1) da_nil)) de_int (nomark _))))) (dss_one (ds_raise XB.X_InvalidTelling tk)) dss_nil)
    (dsf_cons (ds_if (dt_cmp (od_ne hr) (de_lc [2] rfl sc_Desk___iadd__.nd (di_seq (de_v 1)) (blkOk_by (own := [("one", 2)]) (N := n_Desk___iadd__) (sc := defScope s_Desk___iadd__) (by decide +kernel)) (fun _ _ _ _ _ => (dgw_v 2 sc_Desk___iadd__.nd)) (fun _ _ _ _ _ => (dts_one (dt_not (dt_val (dc h_tells wf_takes (hr.mono (by decide)) (da_cons (de_ix (de_fldO 0 false oc) de_int) (da_cons (de_ix (de_fldO 0 false oc) de_int) (da_cons (de_v 2) da_nil)))))))) (fun _ _ _ _ _ => (de_v 2))) (de_lst da_nil) (nomark _)) (dss_one (ds_raise XB.X_InvalidTelling tk)) dss_nil)
    (dsf_cons (ds_set 3 sc_Desk___iadd__.nd (de_fldO 0 false oc))
    (dsf_cons (ds_for hp rfl (di_seq (de_v 1)) (dg_v 2 sc_Desk___iadd__.nd) (dss_one (ds_set 3 sc_Desk___iadd__.nd (de_methO 0 oc h_after tk (hr.mono (by decide)) (da_cons (de_v 3) (da_cons (de_v 2) da_nil))))))
    (dsf_cons (ds_fldO 0 true oc (de_op od_add (de_fldO 0 true oc) (de_tup (da_cons (de_fldO 0 false oc) da_nil))))
    (dsf_cons (ds_fldO 0 false oc (de_v 3))
    (dsf_ret 0))))))), Ia, Bi⟩, ?_, ?_⟩
  · intro r p ts l hl
    have n0 : opNe (.lst []) (.lst []) = some (.bl false) := by rw [ne_nil' (by rfl)]; rfl
    have n1 : gLen [.tup []] = some (.int 0) := rfl
    have e4 := pastD_add r p l ts hl
    have nof : ∀ l : List D, List.filter (fun _ => false) l = [] := fun l => by simp
    simp [stO, fldO, setO, callO, n0, n1, e4]
    rw [compL_map (tb := fun _ => false) (fd := id)]
    case h => intro d hd; cases hd
    simp [S.wipe, fldO, setO, callO, n0, n1, e4, forL]
    rfl
  · intro r p ts l run a b lo hi hi' hl hl2 nb ht
    have ok1 := hi'.ok (.span run a b lo hi) (by simp)
    have n0 : opNe (.lst []) (.lst []) = some (.bl false) := by rw [ne_nil' (by rfl)]; rfl
    have n1 : gLen [.tup [enT (.span run a b lo hi)]] = some (.int 1) := rfl
    have e0 : opIx (bk r p (tsD ts)) (.int 0) = some (.int (r : Int)) := rfl
    have e1 : opIx (bk r p (tsD ts)) (.int 1) = some (.int (p : Int)) := rfl
    have e2 : ∀ s, callP m_tells 3 [.int (r : Int), .int (p : Int), enT (.span run a b lo hi)] s = .ok (.bl true) s := fun s => by
      rw [cp_tells (enT_okd _ 59), span_tells ok1]
    have e3 := pa.good (bk r p (tsD ts)) (pastD r p l) r p ts _ hi' hl nb ht
    have e4 := pastD_add r p l ts hl2
    have nof : ∀ l : List D, List.filter (fun _ => false) l = [] := fun l => by simp
    simp [stO, fldO, setO, callO, n0, n1, e0, e1, e2, e3, e4]
    rw [compL_map (tb := fun _ => false) (fd := id)]
    case h =>
      intro d hd
      rcases hd with _ | ⟨_, hd⟩
      · exact ⟨_, rfl, by simp [e0, e1, e2], (fun z => by cases z), rfl⟩
      · cases hd
    simp [S.wipe, fldO, setO, callO, n0, n1, e0, e1, e2, e3, e4, forL, nof]
    rfl
/-! ## == -/
def m_eq : FM2 := fun n p n' p' => if okd 60 n && okd 60 n' then .ok (.bl (deq n n')) n p n' p' else .stuck
theorem ok_eq (oc : OC K) (B : Bl mg) (ic : C8.InsC K objC) (hDesk : mg "Desk" = some (.ref objC)) {f : Addr} {fd : FuncData} (F : Fun K "__eq__" "Desk.__eq__" s_Desk___eq__ f fd) (Cm : CmpO K f) (Bi : Binds K fd p_Desk___eq__ []) :
    ∃ m, Has2 P w K mg base 1 ["self", "other"] m ∧ ∀ n p n' p', okd 60 n = true → okd 60 n' = true → m n p n' p' = .ok (.bl (deq n n')) n p n' p' := by
  refine ⟨_, ⟨f, fd, fn_2' F sc_Desk___eq__ rfl fun f cdv A outer s H E hr tk hp => (dss_one (ds_ret (de_and (de_isO 1 ic B.isinstance hDesk) (de_one (de_cmp (od_eq hr) (de_fldO 0 false oc) (de_fldO 1 false oc) (nomark _)))))), Cm, Bi⟩, ?_⟩
  · intro n p n' p' h1 h2
    simp [st2, fldO, conO, eq_okd h1 h2]
    rfl
end
end Z

namespace Z
open PySem PySem.Spec PyProof.Rows L2 DL
section
variable {P : Program} {w : World} {K : PySem.W.Frag} {mg : Str → Option Value} {base : Heap}
/-! ## book, new desks -/
theorem ok_book (oc : OC K) {q g : Addr} {fd : FuncData} (F : Fun K "book" "Desk.book" s_Desk_book g fd) (Pr : PropOf K objC "book" q g) (Bi : Binds K fd p_Desk_book []) : HasP P w K mg base 1 "book" obf1 := by
  obtain ⟨o1, od, kV, doc, pm, an, cdv, ct, osl, rfl, lk, hcd⟩ := F.ex
  exact ⟨q, g, _, Pr, fn_getter (p1 := _) (p2 := _) (p3 := _) lk hcd sc_Desk_book rfl rfl oc.cls oc.n1, Bi⟩
def P_mk (m : FMi) : Prop := ∀ r p : Nat, 1 ≤ r → r ≤ 3 → 1 ≤ p → p ≤ 4 → m [.int (r : Int), .int (p : Int)] = .ok (bk r p (tsD [])) (pastD r p [])
def m_mk : FMi
  | [.int r, .int p] => if 1 ≤ r ∧ r ≤ 3 ∧ 1 ≤ p ∧ p ≤ 4 then .ok (.tup [.int r, .int p, .tup []]) (.tup []) else .stuck
  | _ => .stuck
theorem m_mk_P : P_mk m_mk := by
  intro r p h1 h2 h3 h4
  simp only [m_mk]
  rw [if_pos (by omega)]
  rfl
theorem ok_mk (oc : OC K) (B : Bl mg) (XB : Xl K mg) (h_is_int : Has P w K mg base 1 "is_int" p_is_int m_is_int) {f : Addr} {fd : FuncData} (F : Fun K "__init__" "Desk.__init__" s_Desk___init__ f fd) (M : Mk K objC f) (Bi : Binds K fd p_Desk___init__ []) :
    ∃ m, HasMk P w K mg base 2 ["self", "runs", "pieces"] m ∧ P_mk m := by
  refine ⟨m_mk, ⟨f, fd, fn_mk F sc_Desk___init__ (fun cdv A outer s H E hr => (fun (tk : Takes _ _) => pss_init oc (ds_if (dt_w (dw_or (dt_not (dt_val (dc h_is_int tk (hr.mono (by decide)) (da_cons (de_v 1) (da_cons de_int (da_cons de_int da_nil)))))) (dw_or1 (dt_not (dt_val (dc h_is_int tk (hr.mono (by decide)) (da_cons (de_v 2) (da_cons de_int (da_cons de_int da_nil))))))))) (dss_one (ds_raise XB.X_InvalidBook tk)) dss_nil) (de_tup (da_cons (de_v 1) (da_cons (de_v 2) (da_cons (de_tup da_nil) da_nil)))) (de_tup da_nil)) tkX) ?_, M, Bi⟩, m_mk_P⟩
  intro a ds ne
  unfold m_mk at ne ⊢
  split at ne
  · rename_i r p
    by_cases h : 1 ≤ r ∧ r ≤ 3 ∧ 1 ≤ p ∧ p ≤ 4
    · rw [if_pos h]
      obtain ⟨h1, h2, h3, h4⟩ := h
      refine ⟨_, _, rfl, ?_, ?_, ?_⟩
      · have e1 : ∀ s, callP m_is_int 3 [.int r, .int 1, .int 3] s = .ok (.bl true) s := fun s => by
          rw [cp_is_int rfl]
          simp [isI, h1, h2]
        have e2 : ∀ s, callP m_is_int 3 [.int p, .int 1, .int 4] s = .ok (.bl true) s := fun s => by
          rw [cp_is_int rfl]
          simp [isI, h3, h4]
        simp [stD, e1, e2]
      · simp [stD]
      · simp [stD]
    · rw [if_neg h] at ne
      exact absurd rfl ne
  · exact absurd rfl ne
/-! ## attempt -/
structure P_att (m : D → D → FRo) (d : D) (ma : FMo) : Prop where
  ok : ∀ n p r n' p', m n p = .ok r n' p' → ma n p [d] = .ok r n' p'
  exc : ∀ n p x n' p', m n p = .exc x none n' p' → ma n p [d] = .exc x none n p
theorem ok_attempt (oc : OC K) (B : Bl mg) {k : Nat} {q : Str} {L : LamC} {cells : List (Str × Addr)} {m : D → D → FRo} (CW : ClW P w K mg base k q L cells m)
    (T : MThere K "attempt" "Desk.attempt" s_Desk_attempt p_Desk_attempt) : ∃ ma, HasO P w K mg base (k + 1) "attempt" ["self", "action"] ma ∧ P_att m (.lam q L cells) ma := by
  refine ⟨_, has_o T sc_Desk_attempt fun f cdv A outer s H E hr tk hp => (dss_cons (ds_par3 2 3 4 rfl sc_Desk_attempt.nd (da_cons (de_fldO 0 false oc) (da_cons (de_fldO 0 true oc) (da_cons de_non da_nil))))
    (dss_cons (ds_tryFin rfl rfl rfl tk (fun W' pn xe tk' hp' => dss_cons (ds_set 5 sc_Desk_attempt.nd (de_actV 0 1 CW hr tk')) (dss_one (ds_set 4 sc_Desk_attempt.nd de_int)))
      (dss_one (ds_if (dt_cmp od_is (de_v 4) de_non (nomark _)) (dss_cons (ds_fldO 0 false oc (de_v 2))
      (dss_one (ds_fldO 0 true oc (de_v 3)))) dss_nil)) (fun _ _ => (dss_one (ds_if (dt_cmp od_is (de_v 4) de_non (nomark _)) (dss_cons (ds_fldO 0 false oc (de_v 2))
      (dss_one (ds_fldO 0 true oc (de_v 3)))) dss_nil))))
    (dss_one (ds_ret (de_v 5))))), ⟨?_, ?_⟩⟩
  · intro n p r n' p' h
    have ha : ∀ a b c d, actO 0 1 q L cells m ⟨[some (.obj n p), some (.val (.lam q L cells)), a, b, c, d], none⟩ = resO 0 (m n p) ⟨[some (.obj n p), some (.val (.lam q L cells)), a, b, c, d], none⟩ := fun a b c d => actO_ok rfl rfl
    simp [stO, fldO, setO, ha, h, finT]
  · intro n p x n' p' h
    have ha : ∀ a b c d, actO 0 1 q L cells m ⟨[some (.obj n p), some (.val (.lam q L cells)), a, b, c, d], none⟩ = resO 0 (m n p) ⟨[some (.obj n p), some (.val (.lam q L cells)), a, b, c, d], none⟩ := fun a b c d => actO_ok rfl rfl
    simp [stO, fldO, setO, ha, h, finT]
theorem ok_attemptR (oc : OC K) (B : Bl mg) {k : Nat} {f : Addr} {fd : FuncData} {ps : List Str} {m : FMo} (F : FnO P w K mg base k f fd ps m) (hb : Binds K fd ps []) (hl : ps.length = 1) (hk : PySem.W.keepIn K (.ref f) = true)
    (T : MThere K "attempt" "Desk.attempt" s_Desk_attempt p_Desk_attempt) : ∃ ma, HasO P w K mg base (k + 1) "attempt" ["self", "action"] ma ∧ P_att (fun n p => m n p []) (.ref f) ma := by
  refine ⟨_, has_o T sc_Desk_attempt fun f' cdv A outer s H E hr tk hp => (dss_cons (ds_par3 2 3 4 rfl sc_Desk_attempt.nd (da_cons (de_fldO 0 false oc) (da_cons (de_fldO 0 true oc) (da_cons de_non da_nil))))
    (dss_cons (ds_tryFin rfl rfl rfl tk (fun W' pn xe tk' hp' => dss_cons (ds_set 5 sc_Desk_attempt.nd (de_actR 0 1 F hb hl hk hr tk')) (dss_one (ds_set 4 sc_Desk_attempt.nd de_int)))
      (dss_one (ds_if (dt_cmp od_is (de_v 4) de_non (nomark _)) (dss_cons (ds_fldO 0 false oc (de_v 2))
      (dss_one (ds_fldO 0 true oc (de_v 3)))) dss_nil)) (fun _ _ => (dss_one (ds_if (dt_cmp od_is (de_v 4) de_non (nomark _)) (dss_cons (ds_fldO 0 false oc (de_v 2))
      (dss_one (ds_fldO 0 true oc (de_v 3)))) dss_nil))))
    (dss_one (ds_ret (de_v 5))))), ⟨?_, ?_⟩⟩
  · intro n p r n' p' h
    have ha : ∀ a b c d, actR 0 1 f (fun n p => m n p []) ⟨[some (.obj n p), some (.val (.ref f)), a, b, c, d], none⟩ = resO 0 (m n p []) ⟨[some (.obj n p), some (.val (.ref f)), a, b, c, d], none⟩ := fun a b c d => by simp [actR]
    simp [stO, fldO, setO, ha, h, finT]
  · intro n p x n' p' h
    have ha : ∀ a b c d, actR 0 1 f (fun n p => m n p []) ⟨[some (.obj n p), some (.val (.ref f)), a, b, c, d], none⟩ = resO 0 (m n p []) ⟨[some (.obj n p), some (.val (.ref f)), a, b, c, d], none⟩ := fun a b c d => by simp [actR]
    simp [stO, fldO, setO, ha, h, finT]
end
end Z

namespace Z
open PySem PySem.Spec PyProof.Rows L2 DL
section
variable {P : Program} {w : World} {K : PySem.W.Frag} {mg : Str → Option Value} {base : Heap}
/-! ## canonical worth -/
open Classical in
noncomputable def canO (R : D → D → List D → FRo → Prop) : FMo := fun n p ds => if h : ∃ r, R n p ds r then h.choose else .stuck
theorem canO_eq {R : D → D → List D → FRo → Prop} {m : FMo} (hm : ∀ n p ds r, R n p ds r → m n p ds = r) {n p : D} {ds : List D} {r : FRo} (h : R n p ds r) : canO R n p ds = r := by
  have h2 : ∃ r, R n p ds r := ⟨r, h⟩
  unfold canO
  rw [dif_pos h2]
  exact (hm _ _ _ _ h2.choose_spec).symm.trans (hm _ _ _ _ h)
theorem canO_im {R : D → D → List D → FRo → Prop} {m : FMo} (hm : ∀ n p ds r, R n p ds r → m n p ds = r) (n p : D) (ds : List D) : canO R n p ds = .stuck ∨ canO R n p ds = m n p ds := by
  by_cases h : ∃ r, R n p ds r
  · obtain ⟨r, h⟩ := h
    exact .inr ((canO_eq hm h).trans (hm _ _ _ _ h).symm)
  · exact .inl (by unfold canO; rw [dif_neg h])
theorem fnO_can {k : Nat} {f : Addr} {fd : FuncData} {ps : List Str} {R : D → D → List D → FRo → Prop} {m : FMo} (F : FnO P w K mg base k f fd ps m) (hm : ∀ n p ds r, R n p ds r → m n p ds = r) : FnO P w K mg base k f fd ps (canO R) := by
  refine F.imp fun vs H Q E h => ?_
  obtain ⟨a, HP, ds, vs', nn, pp, e0, e1, sm, dv, ob, tb, po⟩ := h
  refine ⟨a, HP, ds, vs', nn, pp, e0, e1, sm, dv, ob, tb, ?_⟩
  rcases canO_im hm nn pp ds with z | z
  · rw [z] at po; exact po.elim
  · rw [z] at po; exact po
/-! ## what is told -/
abbrev s19 : FW.Tel := .span 0 0 1 1 9
abbrev s28 : FW.Tel := .span 0 0 1 2 8
abbrev s15 : FW.Tel := .span 0 0 1 1 5
abbrev s01 : FW.Tel := .span 0 0 1 0 1
structure Sz (r p : Nat) : Prop where
  r1 : 1 ≤ r
  r3 : r ≤ 3
  p1 : 1 ≤ p
  p4 : p ≤ 4
theorem Sz.cases {r p : Nat} (z : Sz r p) {Q : Nat → Nat → Prop} [∀ r p, Decidable (Q r p)] (h : (List.all [1, 2, 3] fun r => List.all [1, 2, 3, 4] fun p => decide (Q r p)) = true) : Q r p := by
  have h1 := List.all_eq_true.mp h r (by have := z.r1; have := z.r3; simp; omega)
  have h2 := List.all_eq_true.mp h1 p (by have := z.p1; have := z.p4; simp; omega)
  simpa using h2
theorem inR_of {r p : Nat} (z : Sz r p) {ts : List FW.Tel} (h : ∀ x ∈ ts, x = s19 ∨ x = s28 ∨ x = s15 ∨ x = s01) (hl : ts.length ≤ 6) : InR r p ts ∧ noB ts := by
  have nb : noB ts := fun x hx => by rcases h x hx with rfl | rfl | rfl | rfl <;> rfl
  obtain ⟨r1, r3, p1, p4⟩ := z
  refine ⟨⟨by omega, by omega, p4, fun x hx => ?_, by omega, ?_⟩, nb⟩
  · rcases h x hx with rfl | rfl | rfl | rfl <;> exact ⟨by omega, by omega, by omega, by decide, by decide, by decide⟩
  · rw [List.filter_eq_nil_iff.mpr fun x hx => by simp [nb x hx]]
    simp
theorem t_19 {r p : Nat} (z : Sz r p) : FW.tablesOf r p [s19] [] ≠ [] := z.cases (Q := fun r p => FW.tablesOf r p [s19] [] ≠ []) (by decide +kernel)
theorem t_28 {r p : Nat} (z : Sz r p) : FW.tablesOf r p [s28] [] ≠ [] := z.cases (Q := fun r p => FW.tablesOf r p [s28] [] ≠ []) (by decide +kernel)
theorem t_15 {r p : Nat} (z : Sz r p) : FW.tablesOf r p [s15] [] ≠ [] := z.cases (Q := fun r p => FW.tablesOf r p [s15] [] ≠ []) (by decide +kernel)
theorem t_2819 {r p : Nat} (z : Sz r p) : FW.tablesOf r p [s28, s19] [] ≠ [] := z.cases (Q := fun r p => FW.tablesOf r p [s28, s19] [] ≠ []) (by decide +kernel)
theorem t_2801 {r p : Nat} (z : Sz r p) : FW.tablesOf r p [s28, s01] [] = [] := z.cases (Q := fun r p => FW.tablesOf r p [s28, s01] [] = []) (by decide +kernel)
theorem tell_19 {m : FMo} (pm : P_tell m) {r p : Nat} (z : Sz r p) {ts : List FW.Tel} (ht : ts = [] ∨ ts = [s28]) {l : List (List FW.Tel)} (hl : l.length ≤ 200) :
    ∃ c, m (bk r p (tsD ts)) (pastD r p l) [.tup [.str "span", .int 0, .int 0, .int 1, .int 1, .int 9]] = .ok c (bk r p (tsD (ts ++ [s19]))) (pastD r p (l ++ [ts])) := by
  have h := inR_of z (ts := ts ++ [s19]) (by rcases ht with rfl | rfl <;> simp) (by rcases ht with rfl | rfl <;> simp)
  exact pm.good r p ts l 0 0 1 1 9 z.r3 h.1 (by rcases ht with rfl | rfl <;> simp) hl h.2 (by rcases ht with rfl | rfl; exact t_19 z; exact t_2819 z)
theorem tell_28 {m : FMo} (pm : P_tell m) {r p : Nat} (z : Sz r p) {l : List (List FW.Tel)} (hl : l.length ≤ 200) :
    ∃ c, m (bk r p (tsD [])) (pastD r p l) [.tup [.str "span", .int 0, .int 0, .int 1, .int 2, .int 8]] = .ok c (bk r p (tsD [s28])) (pastD r p (l ++ [[]])) := by
  have h := inR_of z (ts := [] ++ [s28]) (by simp) (by simp)
  exact pm.good r p [] l 0 0 1 2 8 z.r3 h.1 (by simp) hl h.2 (t_28 z)
theorem tell_15 {m : FMo} (pm : P_tell m) {r p : Nat} (z : Sz r p) {l : List (List FW.Tel)} (hl : l.length ≤ 200) :
    ∃ c, m (bk r p (tsD [])) (pastD r p l) [.tup [.str "span", .int 0, .int 0, .int 1, .int 1, .int 5]] = .ok c (bk r p (tsD [s15])) (pastD r p (l ++ [[]])) := by
  have h := inR_of z (ts := [] ++ [s15]) (by simp) (by simp)
  exact pm.good r p [] l 0 0 1 1 5 z.r3 h.1 (by simp) hl h.2 (t_15 z)
theorem tell_01 {m : FMo} (pm : P_tell m) {r p : Nat} (z : Sz r p) {l : List (List FW.Tel)} :
    m (bk r p (tsD [s28])) (pastD r p l) [.tup [.str "span", .int 0, .int 0, .int 1, .int 0, .int 1]] = .exc "NoTruth" none (bk r p (tsD [s28])) (pastD r p l) := by
  have h := inR_of z (ts := [s28] ++ [s01]) (by simp) (by simp)
  exact pm.none_ r p [s28] l 0 0 1 0 1 z.r3 h.1 (t_2801 z)
/-! ## _law_do -/
def turnP (ts : List FW.Tel) : Nat → List (List FW.Tel)
  | 0 => []
  | n + 1 => turnP ts n ++ [ts] ++ [ts ++ [s19]]
theorem turnP_len (ts : List FW.Tel) (n : Nat) : (turnP ts n).length = 2 * n := by
  induction n with
  | zero => rfl
  | succ n ih => simp [turnP, ih]; omega
inductive R_do : D → D → List D → FRo → Prop
  | good {r p : Nat} (z : Sz r p) {ts : List FW.Tel} (ht : ts = [] ∨ ts = [s28]) (l : List (List FW.Tel)) (hl : l.length ≤ 60) {many : Nat} (hm : many ≤ 8) :
    R_do (bk r p (tsD ts)) (pastD r p l) [.int (many : Int), .bl false] (.ok (.int ((l.length + 2 * many + 1 : Nat) : Int)) (bk r p (tsD ts)) (pastD r p (l ++ turnP ts many ++ [ts])))
  | bad {r p : Nat} (z : Sz r p) {ts : List FW.Tel} (ht : ts = [] ∨ ts = [s28]) (l : List (List FW.Tel)) (hl : l.length ≤ 60) {many : Nat} (hm : many ≤ 8) :
    R_do (bk r p (tsD ts)) (pastD r p l) [.int (many : Int), .bl true] (.exc "InvalidIndex" none (bk r p (tsD ts)) (pastD r p (l ++ turnP ts many ++ [ts])))
theorem has_g {x : Str} {st : Stmt} {N ps : List Str} {k : Nat} {f' : S → T} (T : There K mg x st ps) (Sc : FnScope N ps (defScope st))
    (body : ∀ (f : Addr) (cdv : Value) (A : Around) (outer : List Env) (s : Shared) (H : Hp) (E : XK), Room k (A.deeper (envOfC x (defScope st) s.heap.objs.size f cdv)) → Takes (cxOf (L2.CX P w) P w K mg base N x (defScope st) f cdv A outer s H E) (fun cls d _ H => E cls d H) → PassesOwn (model (cxOf (L2.CX P w) P w K mg base N x (defScope st) f cdv A outer s H E).prog (cxOf (L2.CX P w) P w K mg base N x (defScope st) f cdv A outer s H E).w) (cxOf (L2.CX P w) P w K mg base N x (defScope st) f cdv A outer s H E).A (cxOf (L2.CX P w) P w K mg base N x (defScope st) f cdv A outer s H E).env (cxOf (L2.CX P w) P w K mg base N x (defScope st) f cdv A outer s H E).xe →
      DSs (cxOf (L2.CX P w) P w K mg base N x (defScope st) f cdv A outer s H E) (fun cls d _ H => E cls d H) (defBody st) f') :
    HasG P w K mg base (k + 1) x ps (fun n p ds => (f' (stO N n p ds)).finO) := by
  obtain ⟨f, fd, T⟩ := T
  exact ⟨f, fd, fn_o T.F Sc fun cdv A outer s H E hr => body f cdv A outer s H E hr tkX hpX, T.g, T.F.kp, T.b⟩
end
end Z

namespace Z
open PySem PySem.Spec PyProof.Rows L2 DL
section
variable {P : Program} {w : World} {K : PySem.W.Frag} {mg : Str → Option Value} {base : Heap}
theorem ok__law_do (oc : OC K) (B : Bl mg) (h_tell : ∃ m, HasOR P w K mg base 9 "tell" m ∧ P_tell m) (h_forget : ∃ m, HasO P w K mg base 2 "forget" ["self", "index"] m ∧ P_forget m) (h_iadd : ∃ m, HasIa P w K mg base 7 ["self", "tellings"] m ∧ P_iadd m)
    (h_len : ∃ m, HasO P w K mg base 1 "__len__" ["self"] m ∧ P_len m) (h_book : HasP P w K mg base 1 "book" obf1) (Th : There K mg "_law_do" s__law_do p__law_do) : HasG P w K mg base 10 "_law_do" ["_law_desk", "_law_many", "_law_bad"] (canO R_do) ∧ ∃ m : FMo, ∀ n p ds r, R_do n p ds r → m n p ds = r := by
  obtain ⟨m1, h_tell, p1⟩ := h_tell
  obtain ⟨m2, h_forget, p2⟩ := h_forget
  obtain ⟨m3, h_iadd, p3⟩ := h_iadd
  obtain ⟨m4, h_len, p4⟩ := h_len
  have G := has_g (P := P) (w := w) (base := base) (k := 9) Th sc__law_do fun f cdv A outer s H E hr tk hp => (dss_cons (ds_for hp rfl (di_range1 rfl B.range (da_cons (de_v 1) da_nil)) (dg_v 3 sc__law_do.nd) (dss_cons (ds_expr (de_methOR 0 oc h_tell tk (hr.mono (by decide)) (da_cons de_str (da_cons de_int (da_cons de_int (da_cons de_int (da_cons de_int (da_cons de_int da_nil))))))))
      (dss_one (ds_expr (de_methO 0 oc h_forget tk (hr.mono (by decide)) (da_cons (de_op od_sub (de_callB cd_len B.len PySem.boot_len (da_cons (de_ix (de_propO 0 false oc h_book (hr.mono (by decide))) de_int) da_nil)) de_int) da_nil))))))
    (dss_cons (ds_iaddO 0 h_iadd (hr.mono (by decide)) sc__law_do.nd (de_tup da_nil))
    (dss_cons (ds_if (dt_val (de_v 2)) (dss_one (ds_expr (de_methO 0 oc h_forget tk (hr.mono (by decide)) (da_cons de_int da_nil)))) dss_nil)
    (dss_one (ds_ret (de_lenO 0 h_len (hr.mono (by decide)) B.len))))))
  obtain ⟨f, fd, F, e1, e2, e3⟩ := G
  refine (fun hm => ⟨⟨f, fd, fnO_can F hm, e1, e2, e3⟩, _, hm⟩) ?_
  have i2 : ∀ (r p : Nat) (l : List FW.Tel), opIx (bk r p (tsD l)) (.int 2) = some (tsD l) := fun _ _ _ => rfl
  have e8 : ∀ l : List FW.Tel, gLen [tsD l] = some (.int (l.length : Int)) := fun l => by
    show some (D.int ((l.map enT).length : Int)) = _
    rw [List.length_map]
  intro n p ds r h
  rcases h with ⟨z, ht, l, hl, hm⟩ | ⟨z, ht, l, hl, hm⟩
  · rename_i r p ts many
    have q1 : ∀ s, toR1 [.int (many : Int)] s = .ok (rngI 0 (many : Int)) s := fun s => toR1_n (by omega)
    simp [stO, q1]
    generalize hf : forL _ _ _ _ = q
    let st : List (List FW.Tel) × Option Sl → S := fun a => ⟨[some (Sl.obj (bk r p (tsD ts)) (pastD r p a.1)), some (Sl.val (.int (many : Int))), some (Sl.val (.bl false)), a.2], none⟩
    have key : ∃ a, q = .next (st a) ∧ a.1 = l ++ turnP ts many := by
      rw [← hf]; clear hf
      refine forL_rng st (fun k a => a.1 = l ++ turnP ts k) many (l, none) (by simp [turnP]) ?_
      rintro i ⟨l1, o⟩ hi hl1
      dsimp only at hl1
      have ll : l1.length ≤ 100 := by
        rw [hl1]
        have := turnP_len ts i
        simp [this]
        omega
      have tl : ts.length ≤ 6 := by rcases ht with rfl | rfl <;> simp
      obtain ⟨c, e1⟩ := tell_19 p1 z ht (l := l1) (by omega)
      have e2 := p2.good r p ts (l1 ++ [ts]) s19 tl (by simp; omega)
      refine ⟨_, rfl, fun I hI => ?_⟩
      have := hI (l1 ++ [ts] ++ [ts ++ [s19]], some (.val (.int (i : Int)))) (by simp [hl1, turnP])
      simp [st, callO, fldO, e1, e2, i2, e8]
      simpa [st] using this
    obtain ⟨⟨l1, o⟩, rfl, hl1⟩ := key
    dsimp only at hl1
    subst hl1
    have e3 := p3.none_ r p ts (l ++ turnP ts many) (by have := turnP_len ts many; simp [this]; omega)
    have e4 := p4 (bk r p (tsD ts)) r p (l ++ (turnP ts many ++ [ts]))
    have len : (l ++ (turnP ts many ++ [ts])).length = l.length + 2 * many + 1 := by simp [turnP_len]; omega
    simp [st, callO, iaddO, lenO, e3]
    rw [e4, len]
    dsimp only
    rw [if_pos ⟨by omega, by omega⟩]
    simp
  · rename_i r p ts many
    have q1 : ∀ s, toR1 [.int (many : Int)] s = .ok (rngI 0 (many : Int)) s := fun s => toR1_n (by omega)
    simp [stO, q1]
    generalize hf : forL _ _ _ _ = q
    let st : List (List FW.Tel) × Option Sl → S := fun a => ⟨[some (Sl.obj (bk r p (tsD ts)) (pastD r p a.1)), some (Sl.val (.int (many : Int))), some (Sl.val (.bl true)), a.2], none⟩
    have key : ∃ a, q = .next (st a) ∧ a.1 = l ++ turnP ts many := by
      rw [← hf]; clear hf
      refine forL_rng st (fun k a => a.1 = l ++ turnP ts k) many (l, none) (by simp [turnP]) ?_
      rintro i ⟨l1, o⟩ hi hl1
      dsimp only at hl1
      have ll : l1.length ≤ 100 := by
        rw [hl1]
        have := turnP_len ts i
        simp [this]
        omega
      have tl : ts.length ≤ 6 := by rcases ht with rfl | rfl <;> simp
      obtain ⟨c, e1⟩ := tell_19 p1 z ht (l := l1) (by omega)
      have e2 := p2.good r p ts (l1 ++ [ts]) s19 tl (by simp; omega)
      refine ⟨_, rfl, fun I hI => ?_⟩
      have := hI (l1 ++ [ts] ++ [ts ++ [s19]], some (.val (.int (i : Int)))) (by simp [hl1, turnP])
      simp [st, callO, fldO, e1, e2, i2, e8]
      simpa [st] using this
    obtain ⟨⟨l1, o⟩, rfl, hl1⟩ := key
    dsimp only at hl1
    subst hl1
    have e3 := p3.none_ r p ts (l ++ turnP ts many) (by have := turnP_len ts many; simp [this]; omega)
    have e4 := p2.bad r p ts (l ++ (turnP ts many ++ [ts])) (by rcases ht with rfl | rfl <;> simp)
    simp [st, callO, iaddO, lenO, e3, e4]
end
end Z

namespace Z
open PySem PySem.Spec PyProof.Rows L2 DL
section
variable {P : Program} {w : World} {K : PySem.W.Frag} {mg : Str → Option Value} {base : Heap}
/-! ## defs that make closures -/
theorem hasG_at {x : Str} {st : Stmt} {N ps : List Str} {k : Nat} {R : D → D → List D → FRo → Prop} (DA : DefAt K mg x st ps) (Sc : FnScope N ps (defScope st))
    (body : ∀ (A : Around) (outer : List Env) (s : Shared) (H : Hp) (E : XK), Room k (A.deeper (envOfC x (defScope st) s.heap.objs.size DA.g DA.cdv)) → Takes (cxOf (L2.CX P w) P w K mg base N x (defScope st) DA.g DA.cdv A outer s H E) (fun cls d _ H => E cls d H) → PassesOwn (model (cxOf (L2.CX P w) P w K mg base N x (defScope st) DA.g DA.cdv A outer s H E).prog (cxOf (L2.CX P w) P w K mg base N x (defScope st) DA.g DA.cdv A outer s H E).w) (cxOf (L2.CX P w) P w K mg base N x (defScope st) DA.g DA.cdv A outer s H E).A (cxOf (L2.CX P w) P w K mg base N x (defScope st) DA.g DA.cdv A outer s H E).env (cxOf (L2.CX P w) P w K mg base N x (defScope st) DA.g DA.cdv A outer s H E).xe →
      ∃ f' : S → DL.T, DSs (cxOf (L2.CX P w) P w K mg base N x (defScope st) DA.g DA.cdv A outer s H E) (fun cls d _ H => E cls d H) (defBody st) f' ∧ ∀ n p ds r, R n p ds r → (f' (stO N n p ds)).finO = r) :
    HasG P w K mg base (k + 1) x ps (canO R) := by
  refine ⟨DA.g, _, ?_, DA.m, DA.kp, DA.b⟩
  refine fn_of DA.lk DA.cd Sc (fun vs H Q E h => ?_) (fun A outer s H vs Q E hr h => ?_)
  · obtain ⟨_, _, _, _, _, _, _, e, _⟩ := h; exact e
  · obtain ⟨a, HP, ds, vs', nn, pp, e0, e1, sm, dv, ob, tb, po⟩ := h
    subst e0
    obtain ⟨f', hb, hR⟩ := body A outer s H E hr tkX hpX
    have po' : PoFo K mg a HP H ((f' (stO N nn pp ds)).finO) Q E := by
      by_cases z : ∃ r, R nn pp ds r
      · obtain ⟨r, z⟩ := z
        rwa [canO_eq (m := fun n p ds => (f' (stO N n p ds)).finO) hR z, ← hR _ _ _ _ z] at po
      · unfold canO at po
        rw [dif_neg z] at po
        exact po.elim
    exact ⟨_, hb, va0 a, stO N nn pp ds, HP, rel_startO (lenO_le Sc e1) sm dv ob tb, po_fin rfl rfl po'⟩
theorem de_lamW {X : Cx} {W : WX} {q : Str} {cells : List (Str × Addr)} (L : LamC) {c Pt : Addr} {pos : Pos} (TB : LamX.TabB X.base X.mg c Pt) (hcode : X.env.code = .ref c) (hmT : (Pt, q) ∈ lamT) (hu : ∀ p ∈ lamT, p.1 = Pt → p.2 = q)
    (hfr : ∀ y ∈ L.scope.names, y.2 = .free → X.env.scope.names.lookup y.1 = some .cell ∨ X.env.scope.names.lookup y.1 = some .free) (nodef : defaultsOf L.params X.env = ([], []))
    (hq : X.env.qual ++ "<lambda>" = q) (hc : X.env.cells = cells) : DE X W (.Lambda L.params L.body L.scope pos) (fun s => .ok (.lam q L cells) s) := by
  subst hq hc
  constructor
  rintro pins s σ H Q I ⟨va, st, HP, rl, h⟩
  refine lam_make3 I TB hcode hmT hu rl.tab.t nodef (fun y hy e => (hfr y hy e).elim (fun z => I.ok.has _ (.inl z)) fun z => I.ok.has _ (.inr z)) fun f cc G s2 grow tabs nF hcc J => ?_
  have s1 := rl.grow grow tabs
  have s2 := s1.rel.note hcc
  have s3 := s2.rel.laid (o := LamO f cc (X.env.qual ++ "<lambda>") ⟨L.params, L.body, L.scope⟩ X.env.cells) nF (fun _ z => by unfold LamO at z; cases z)
  have nPf : f ≠ cc := fun z => by rw [z, hcc] at nF; cases nF
  exact ⟨.ref f, _, J, rfl, h _ _ _ (s1.trans (s2.trans s3)) (.lam upd_same (by rw [upd_ne (Ne.symm nPf), upd_same]; rfl))⟩
theorem tabB_up {b b2 : Heap} {c Pt : Addr} (TB : LamX.TabB b mg c Pt) (k : ∀ a o, b.get? a = some o → b2.get? a = some o) : LamX.TabB b2 mg c Pt := ⟨TB.code.keeps k, TB.bm.keeps k, TB.gP⟩
/-- what an attempt answers -/
def R_at (m : D → D → FRo) (d : D) : D → D → List D → FRo → Prop := fun n p ds r => ds = [d] ∧ ((∃ v n' p', m n p = .ok v n' p' ∧ r = .ok v n' p') ∨ (∃ x n' p', m n p = .exc x none n' p' ∧ r = .exc x none n p))
theorem P_att.can {m : D → D → FRo} {d : D} {ma : FMo} (h : P_att m d ma) : ∀ n p ds r, R_at m d n p ds r → ma n p ds = r := by
  rintro n p ds r ⟨rfl, ⟨v, n', p', e, rfl⟩ | ⟨x, n', p', e, rfl⟩⟩
  · exact h.ok _ _ _ _ _ e
  · exact h.exc _ _ _ _ _ e
/-- such a worth there is -/
def m_att (m : D → D → FRo) : FMo := fun n p _ => match m n p with
  | .ok v n' p' => .ok v n' p'
  | .exc x none _ _ => .exc x none n p
  | _ => .stuck
theorem m_att_P (m : D → D → FRo) (d : D) : P_att m d (m_att m) := ⟨fun n p r n' p' e => by simp [m_att, e], fun n p x n' p' e => by simp [m_att, e]⟩
theorem at_eq {m : D → D → FRo} {d : D} {n p : D} {ds : List D} {r : FRo} (h : R_at m d n p ds r) : canO (R_at m d) n p ds = r := canO_eq (m_att_P m d).can h
theorem attR {k : Nat} {q : Str} {L : LamC} {cells : List (Str × Addr)} {m : D → D → FRo} (oc : OC K) (B : Bl mg) (CW : ClW P w K mg base k q L cells m) (T : MThere K "attempt" "Desk.attempt" s_Desk_attempt p_Desk_attempt) :
    HasO P w K mg base (k + 1) "attempt" ["self", "action"] (canO (R_at m (.lam q L cells))) := by
  obtain ⟨ma, ⟨f, fd, F, M, b⟩, pa⟩ := ok_attempt oc B CW T
  exact ⟨f, fd, fnO_can F pa.can, M, b⟩
theorem attRR {k : Nat} {f : Addr} {fd : FuncData} {ps : List Str} {m : FMo} (oc : OC K) (B : Bl mg) (F : FnO P w K mg base k f fd ps m) (hb : Binds K fd ps []) (hl : ps.length = 1) (hk : PySem.W.keepIn K (.ref f) = true) (T : MThere K "attempt" "Desk.attempt" s_Desk_attempt p_Desk_attempt) :
    HasO P w K mg base (k + 1) "attempt" ["self", "action"] (canO (R_at (fun n p => m n p []) (.ref f))) := by
  obtain ⟨ma, ⟨f, fd, F, M, b⟩, pa⟩ := ok_attemptR oc B F hb hl hk T
  exact ⟨f, fd, fnO_can F pa.can, M, b⟩
/-- a closure's worth, canonical -/
theorem ClW.can {b2 : Heap} {k : Nat} {q : Str} {L : LamC} {cells : List (Str × Addr)} {m m' : D → D → FRo} (h : ClW P w K mg b2 k q L cells m) (hm : ∀ n p, m' n p = .stuck ∨ m' n p = m n p) : ClW P w K mg b2 k q L cells m' := by
  intro f cc A outer s H HP a n p Q E hr e0 sub hf hcc ob tb po
  refine h f cc A outer s H HP a n p Q E hr e0 sub hf hcc ob tb ?_
  rcases hm n p with z | z
  · rw [z] at po; exact po.elim
  · rwa [z] at po
/-! ## _law_do is worth one thing -/
def m_do (l : List (List FW.Tel)) : Nat := l.length
theorem R_do_one (h_do : ∃ m : FMo, ∀ n p ds r, R_do n p ds r → m n p ds = r) {n p : D} {ds : List D} {r : FRo} (h : R_do n p ds r) : canO R_do n p ds = r := by
  obtain ⟨m, h_do⟩ := h_do
  exact canO_eq h_do h
def lamNo : LamC := ⟨⟨[], [], none, [], [], none, []⟩, .Name "" ⟨0, 0, 0, 0⟩, default⟩
/-- the lambda that is the first argument of a statement's call -/
def lamE : Option Stmt → LamC
  | some (.Expr (.Call _ (.Lambda p b s _ :: _) _ _) _) => ⟨p, b, s⟩
  | some (.Assign _ (.Lambda p b s _) _) => ⟨p, b, s⟩
  | _ => lamNo
def lamN : LamC := lamE (defBody s__law_nested)[0]?
abbrev qN : Str := "_law_nested.<locals>.<lambda>"
theorem lamN_sc : NdefX.NScope ["_law_one", "_law_many"] ["_law_one"] ["_law_many"] lamN.scope := NdefX.nscope_by (by decide +kernel)
noncomputable def mD (i : Int) (b : Bool) : D → D → FRo := fun n p => canO R_do n p [.int i, .bl b]
theorem clW_N {b2 : Heap} {cells : List (Str × Addr)} {v : V} {i : Int} (c_do : ∃ m : FMo, ∀ n p ds r, R_do n p ds r → m n p ds = r) (h_do : HasG P w K mg b2 10 "_law_do" ["_law_desk", "_law_many", "_law_bad"] (canO R_do)) (C : CellsB (cloFrom cells lamN.scope.names []) ["_law_many"] [some v] b2) (sv : Sca v (.int i)) :
    ClW P w K mg b2 11 qN lamN cells (mD i false) := by
  refine ClW.can (clW_of (vs := [v]) (ds := [.int i]) (k := 10) lamN_sc (fun _ _ _ _ _ => by rfl) C (.cons sv .nil) fun A outer s H E f cc hr2 => (show DE _ _ lamN.body _ from de_callG 0 h_do (takes_of rfl rfl rfl rfl) hr2 (da_cons (de_v 1) (da_cons de_bl da_nil)))) fun n p => ?_
  by_cases z : ∃ r, R_do n p [.int i, .bl false] r
  · obtain ⟨r, z⟩ := z
    right
    have e := R_do_one c_do z
    unfold mD
    rw [e]
    cases z <;> simp [stO, callO, e] <;> rfl
  · left
    unfold mD canO
    rw [dif_neg z]
end
end Z

namespace Z
open PySem PySem.Spec PyProof.Rows L2 DL
section
variable {P : Program} {w : World} {K : PySem.W.Frag} {mg : Str → Option Value} {base : Heap}
/-! ## _law_nested -/
def capI (j : Nat) (s : S) : Option Int := match s.sl[j]? with
  | some (some (.val (.int i))) => some i
  | _ => none
theorem capI_some {j : Nat} {s : S} {i : Int} (h : capI j s = some i) : s.sl[j]? = some (some (.val (.int i))) := by
  unfold capI at h
  split at h
  · injection h with h; subst h; assumption
  · cases h
def pN (many : Nat) : List (List FW.Tel) := [] ++ turnP [] many ++ [[]]
inductive R_ne : D → D → List D → FRo → Prop
  | good {r p : Nat} (z : Sz r p) {many : Nat} (hm : many ≤ 8) : R_ne (bk r p (tsD [])) (pastD r p []) [.int (many : Int), .str ""] (.ok (tsD [s28]) (bk r p (tsD [s28])) (pastD r p (pN many ++ [[]])))
  | tell {r p : Nat} (z : Sz r p) {many : Nat} (hm : many ≤ 8) : R_ne (bk r p (tsD [])) (pastD r p []) [.int (many : Int), .str "telling"] (.exc "InvalidTelling" none (bk r p (tsD [s28])) (pastD r p (pN many ++ [[]])))
  | non {r p : Nat} (z : Sz r p) {many : Nat} (hm : many ≤ 8) : R_ne (bk r p (tsD [])) (pastD r p []) [.int (many : Int), .str "none"] (.exc "NoTruth" none (bk r p (tsD [s28])) (pastD r p (pN many ++ [[]])))
noncomputable def mAtN (cells : List (Str × Addr)) : Option Int → FMo
  | some i => canO (R_at (mD i false) (.lam qN lamN cells))
  | none => fun _ _ _ => .stuck
theorem ok__law_nested (oc : OC K) (B : Bl mg) (T_att : MThere K "attempt" "Desk.attempt" s_Desk_attempt p_Desk_attempt) (c_do : ∃ m : FMo, ∀ n p ds r, R_do n p ds r → m n p ds = r) (h_do : ∀ b2, HasG P w K mg b2 10 "_law_do" ["_law_desk", "_law_many", "_law_bad"] (canO R_do))
    (h_tell : ∃ m, HasOR P w K mg base 9 "tell" m ∧ P_tell m) (h_book : HasP P w K mg base 1 "book" obf1) (DN : DefAt K mg "_law_nested" s__law_nested p__law_nested) {cc Pt : Addr} (hcd : DN.cdv = .ref cc) (TB : LamX.TabB base mg cc Pt) (hT : (Pt, qN) ∈ lamT) (hu : ∀ p ∈ lamT, p.1 = Pt → p.2 = qN) :
    HasG P w K mg base 13 "_law_nested" ["_law_desk", "_law_many", "_law_bad"] (canO R_ne) := by
  obtain ⟨m1, h_tell, p1⟩ := h_tell
  have T2 := T_att
  obtain ⟨ga, fda, Fa, Ma, ba⟩ := T_att
  refine hasG_at (k := 12) DN sc__law_nested fun A outer s H E hr tk hp => ?_
  let X : Cx := cxOf (L2.CX P w) P w K mg base n__law_nested "_law_nested" (defScope s__law_nested) DN.g DN.cdv A outer s H E
  have hfr : ∀ y ∈ lamN.scope.names, y.2 = .free → (defScope s__law_nested).names.lookup y.1 = some .cell ∨ (defScope s__law_nested).names.lookup y.1 = some .free := by decide +kernel
  have FA : ∀ (σ : L2.St) (b2 : Heap) (s : S) (va : VA) (HP H : Hp), Rdy X σ b2 → Rel X.K va s σ HP H → (capI 1 s).isSome = true → FnR X.prog X.w X.K X.mg b2 (L2.CX X.prog X.w) 12 ga (spO X.K X.mg 2 (mAtN X.env.cells (capI 1 s))) := by
    intro σ b2 s va HP H R rl hc
    obtain ⟨i, hi⟩ := Option.isSome_iff_exists.mp hc
    obtain ⟨v, hσ, dv⟩ := rl.val 1 _ (capI_some hi)
    have C : CellsB (cloFrom X.env.cells lamN.scope.names []) ["_law_many"] ([1].map (NdefX.slotAt σ)) b2 := cellsB_of R (NdefX.Caps.made R.ok hfr (by decide +kernel) rfl)
    have e1 : [1].map (NdefX.slotAt σ) = [some v] := by simp [NdefX.slotAt_of hσ]
    rw [e1] at C
    obtain ⟨f2, fd2, F2, M2, b2'⟩ := attR oc B (clW_N (P := P) (w := w) c_do (h_do b2) C (dv.sca rfl)) T2
    have ef : f2 = ga := by
      have := M2.at_.symm.trans Ma.at_
      simpa using this
    subst ef
    rw [hi]
    exact fnR_of (X := { X with base := b2 }) F2 b2'
  refine ⟨_, dss_cons (ds_expr (de_methBig (k := 12) (n := 2) (cap := fun s => (capI 1 s).isSome) (mA := fun s => mAtN X.env.cells (capI 1 s)) 0 oc Ma FA tk hr (da_cons (de_lamW (q := qN) (cells := X.env.cells) lamN TB hcd hT hu hfr (by rfl) (by rfl) rfl) da_nil)))
    (dss_cons (ds_expr (de_methOR 0 oc h_tell tk (hr.mono (by decide)) (da_cons de_str (da_cons de_int (da_cons de_int (da_cons de_int (da_cons de_int (da_cons de_int da_nil))))))))
    (dss_cons (ds_if (dt_cmp (od_eq hr) (de_v 2) de_str (nomark _)) (dss_one (ds_expr (de_methOR 0 oc h_tell tk (hr.mono (by decide)) (da_cons de_str da_nil)))) dss_nil)
    (dss_cons (ds_if (dt_cmp (od_eq hr) (de_v 2) de_str (nomark _)) (dss_one (ds_expr (de_methOR 0 oc h_tell tk (hr.mono (by decide)) (da_cons de_str (da_cons de_int (da_cons de_int (da_cons de_int (da_cons de_int (da_cons de_int da_nil))))))))) dss_nil)
    (dss_one (ds_ret (de_ix (de_propO 0 false oc h_book (hr.mono (by decide))) de_int)))))), ?_⟩
  intro n p ds r h
  have ed : ∀ (r p many : Nat), Sz r p → many ≤ 8 → canO (R_at (mD (many : Int) false) (.lam qN lamN X.env.cells)) (bk r p (tsD [])) (pastD r p []) [.lam qN lamN X.env.cells] = .ok (.int ((0 + 2 * many + 1 : Nat) : Int)) (bk r p (tsD [])) (pastD r p (pN many)) := fun r p many z hm =>
    at_eq ⟨rfl, .inl ⟨_, _, _, R_do_one c_do (R_do.good z (.inl rfl) [] (by decide) hm), rfl⟩⟩
  have i2 : ∀ (r p : Nat) (l : List FW.Tel), opIx (bk r p (tsD l)) (.int 2) = some (tsD l) := fun _ _ _ => rfl
  have q1 : opEq (.str "") (.str "telling") = some (.bl false) := by rw [eq_okd (by decide +kernel) (by decide +kernel)]; rfl
  have q2 : opEq (.str "") (.str "none") = some (.bl false) := by rw [eq_okd (by decide +kernel) (by decide +kernel)]; rfl
  have q3 : opEq (.str "telling") (.str "telling") = some (.bl true) := by rw [eq_okd (by decide +kernel) (by decide +kernel)]; rfl
  have q4 : opEq (.str "none") (.str "telling") = some (.bl false) := by rw [eq_okd (by decide +kernel) (by decide +kernel)]; rfl
  have q5 : opEq (.str "none") (.str "none") = some (.bl true) := by rw [eq_okd (by decide +kernel) (by decide +kernel)]; rfl
  cases h with
  | good z hm =>
    rename_i r p many
    obtain ⟨c, e1⟩ := tell_28 p1 z (l := pN many) (by simp [pN, turnP_len]; omega)
    simp [stO, callO, fldO, capI, mAtN, ed r p many z hm, e1, q1, q2, i2]
  | tell z hm =>
    rename_i r p many
    obtain ⟨c, e1⟩ := tell_28 p1 z (l := pN many) (by simp [pN, turnP_len]; omega)
    have e2 := p1.bad r p [s28] (pN many ++ [[]])
    simp [stO, callO, fldO, capI, mAtN, ed r p many z hm, e1, e2, q3, i2]
  | non z hm =>
    rename_i r p many
    obtain ⟨c, e1⟩ := tell_28 p1 z (l := pN many) (by simp [pN, turnP_len]; omega)
    have e2 := tell_01 p1 z (l := pN many ++ [[]])
    simp [stO, callO, fldO, capI, mAtN, ed r p many z hm, e1, e2, q4, q5, i2]
end
end Z

namespace Z
open PySem PySem.Spec PyProof.Rows L2 DL
section
variable {P : Program} {w : World} {K : PySem.W.Frag} {mg : Str → Option Value} {base : Heap}
/-! ## an error that is none of the package -/
mutual
theorem deq_refl : ∀ (d : D) (n : Nat), okd n d = true → deq d d = true
  | .non, _, _ => rfl
  | .bl b, _, _ => by simp [deq]
  | .int i, _, _ => by simp [deq]
  | .str x, _, _ => by simp [deq]
  | .lst xs, 0, h => by simp [okd] at h
  | .lst xs, n + 1, h => by unfold deq; exact deqA_refl xs n (by simpa [okd] using h)
  | .tup xs, 0, h => by simp [okd] at h
  | .tup xs, n + 1, h => by unfold deq; exact deqA_refl xs n (by simpa [okd] using h)
  | .ref _, n, h => by cases n <;> simp [okd] at h
  | .scr _, n, h => by cases n <;> simp [okd] at h
  | .lam _ _ _, n, h => by cases n <;> simp [okd] at h
theorem deqA_refl : ∀ (xs : List D) (n : Nat), (∀ x ∈ xs, okd n x = true) → deqA xs xs = true
  | [], _, _ => rfl
  | x :: xs, n, h => by
    unfold deqA
    rw [deq_refl x n (h x List.mem_cons_self), deqA_refl xs n (fun y hy => h y (List.mem_cons_of_mem _ hy))]
    rfl
end
theorem de_gref {X : Cx} {W : WX} {x : Str} {f : Addr} {p : Pos} (hm : X.mg x = some (.ref f)) (hg : Gl X x := by rfl) (hd : (x == ("__debug__" : Str)) = false := by decide) : DE X W (.Name x p) (fun s => .ok (.ref f) s) := by
  refine pe_imp (pe_glob (v := .ref f) hg hm rfl hd) fun σ H Q h => ?_
  obtain ⟨va, s, HP, rl, h⟩ := h
  exact h.fin rl (.ref f)
theorem units1 {k : Nat} {A : Around} (r : Room k A) : A.units + 1 < cLine := by have := r.un; omega
inductive R_fl : D → D → List D → FRo → Prop
  | mk {r p : Nat} (z : Sz r p) : R_fl (bk r p (tsD [])) (pastD r p []) [] (.exc "KeyError" none (bk r p (tsD [s15])) (pastD r p [[]]))
theorem ok__law_failing (oc : OC K) (B : Bl mg) (hmk : mg "KeyError" = none) (h_tell : ∃ m, HasOR P w K mg base 9 "tell" m ∧ P_tell m) (h_len : ∃ m, HasO P w K mg base 1 "__len__" ["self"] m ∧ P_len m) (Th : There K mg "_law_failing" s__law_failing p__law_failing) :
    ∃ m : FMo, HasG P w K mg base 10 "_law_failing" ["_law_desk"] m ∧ ∀ n p ds r, R_fl n p ds r → m n p ds = r := by
  obtain ⟨m1, h_tell, p1⟩ := h_tell
  obtain ⟨m4, h_len, p4⟩ := h_len
  refine ⟨_, has_g (k := 9) Th sc__law_failing fun f cdv A outer s H E hr tk hp => dss_cons (ds_expr (de_methOR 0 oc h_tell tk (hr.mono (by decide)) (da_cons de_str (da_cons de_int (da_cons de_int (da_cons de_int (da_cons de_int (da_cons de_int da_nil)))))))) (dss_one (ds_ret (de_dkey1 rfl tk hmk (de_lenO 0 h_len (hr.mono (by decide)) B.len) (units1 hr) (by intro _; rfl)))), ?_⟩
  rintro n p ds r ⟨z⟩
  rename_i r p
  obtain ⟨c, e1⟩ := tell_15 p1 z (l := []) (by decide)
  have e2 := p4 (bk r p (tsD [s15])) r p [[]]
  simp [stO, callO, lenO, e1, e2]
structure HotD (P : Program) (w : World) (K : PySem.W.Frag) (mg : Str → Option Value) (base : Heap) : Prop where
  len : ∃ m, HasOA P w K mg base 1 "__len__" ["self"] m ∧ P_len m
  eq : ∃ m, Has2A P w K mg base 1 ["self", "other"] m ∧ ∀ n p n' p', okd 60 n = true → okd 60 n' = true → m n p n' p' = .ok (.bl (deq n n')) n p n' p'
  book : HasPA P w K mg base 1 "book" obf1
theorem ok_hot (oc : OC K) (B : Bl mg) (ic : C8.InsC K objC) (hDesk : mg "Desk" = some (.ref objC)) (T : MThere K "__len__" "Desk.__len__" s_Desk___len__ p_Desk___len__) {f : Addr} {fd : FuncData} (F : Fun K "__eq__" "Desk.__eq__" s_Desk___eq__ f fd) (Cm : CmpO K f) (Bi : Binds K fd p_Desk___eq__ [])
    {q g : Addr} {fd2 : FuncData} (F2 : Fun K "book" "Desk.book" s_Desk_book g fd2) (Pr : PropOf K objC "book" q g) (Bi2 : Binds K fd2 p_Desk_book []) : HotD P w K mg base := by
  refine ⟨?_, ?_, ?_⟩
  · obtain ⟨f, fd, F, M, b⟩ := T
    refine ⟨_, ⟨f, fd, fn_oA F sc_Desk___len__ fun cdv A outer s H E hr => (fun tk => (dss_one (ds_ret (de_callB cd_len B.len PySem.boot_len (da_cons (de_fldO 0 true oc) da_nil))))) (), M, b⟩, ?_⟩
    intro n r p l
    simp [stO, fldO, pastD]
  · refine ⟨_, ⟨f, fd, fn_2A F sc_Desk___eq__ rfl fun cdv A outer s H E hr => (dss_one (ds_ret (de_and (de_isO 1 ic B.isinstance hDesk) (de_one (de_cmp (od_eqA hr) (de_fldO 0 false oc) (de_fldO 1 false oc) (nomark _)))))), Cm, Bi⟩, ?_⟩
    intro n p n' p' h1 h2
    simp [st2, fldO, conO, eq_okd h1 h2]
    rfl
  · obtain ⟨o1, od, kV, doc, pm, an, cdv, ct, osl, rfl, lk, hcd⟩ := F2.ex
    exact ⟨q, g, _, Pr, fn_getA (p1 := _) (p2 := _) (p3 := _) lk hcd sc_Desk_book rfl rfl oc.cls oc.n1, Bi2⟩
theorem ok__law_failed_right (oc : OC K) (B : Bl mg) (hmk : mg "KeyError" = none) (hx : PySem.W.exmOne K (.type "KeyError") (.type "KeyError") = some true) (hot : HotD P w K mg base) (T_att : MThere K "attempt" "Desk.attempt" s_Desk_attempt p_Desk_attempt)
    (h_fl : ∃ m : FMo, HasG P w K mg base 10 "_law_failing" ["_law_desk"] m ∧ ∀ n p ds r, R_fl n p ds r → m n p ds = r) (Th : There K mg "_law_failed_right" s__law_failed_right p__law_failed_right) :
    ∃ m : FM2, HasG2 P w K mg base 12 "_law_failed_right" ["_law_desk", "_law_twin"] m ∧ ∀ r p, Sz r p → m (bk r p (tsD [])) (pastD r p []) (bk r p (tsD [])) (pastD r p []) = .ok (.bl true) (bk r p (tsD [])) (pastD r p []) (bk r p (tsD [])) (pastD r p []) := by
  obtain ⟨m1, ⟨ff, fdf, Ff, gf, kf, bf⟩, pf⟩ := h_fl
  have h_att := attRR oc B Ff bf rfl kf T_att
  obtain ⟨⟨ml, h_lenA, pl⟩, ⟨me, h_eqA, pe⟩, h_bookA⟩ := hot
  obtain ⟨f, fd, T⟩ := Th
  refine ⟨_, ⟨f, fd, fn_2' T.F sc__law_failed_right rfl fun f cdv A outer s H E hr tk hp => dss_cons (ds_tryKE rfl rfl hmk ⟨rfl, by decide, .inr ⟨hmk, by decide +kernel, by decide⟩⟩ hx (fun W' pn xe tk' hp' => dss_one (ds_expr (de_methO 0 oc h_att tk' hr (da_cons (de_gref gf) da_nil))))
    (fun a pn => dss_one (ds_ret (de_and (de_cmp (od_eqA (k := 11) ⟨hr.dp, hr.un⟩) (de_lenA (k := 1) 0 h_lenA (L2H.RoomH.mono (j := 2) (k := 11) ⟨hr.dp, hr.un⟩ (by decide)) B.len) de_int (nomark _)) (de_and (de_eqA (k := 1) 0 1 h_eqA (L2H.RoomH.mono (j := 1) (k := 11) ⟨hr.dp, hr.un⟩ (by decide))) (de_one (de_cmp (od_eqA (k := 11) ⟨hr.dp, hr.un⟩) (de_ix (de_propA (k := 1) 0 false oc h_bookA (L2H.RoomH.mono (j := 2) (k := 11) ⟨hr.dp, hr.un⟩ (by decide))) de_int) (de_tup da_nil) (nomark _)))))))) (dss_one (ds_ret de_bl)), T.g, T.F.kp, T.b⟩, ?_⟩
  intro r p z
  have ea : canO (R_at (fun n p => m1 n p []) (.ref ff)) (bk r p (tsD [])) (pastD r p []) [.ref ff] = .exc "KeyError" none (bk r p (tsD [])) (pastD r p []) := at_eq ⟨rfl, .inr ⟨_, _, _, pf _ _ _ _ (.mk z), rfl⟩⟩
  have e2 := pl (bk r p (tsD [])) r p []
  have ok1 := bk_okd r p 57 []
  have e3 := pe (bk r p (tsD [])) (pastD r p []) (bk r p (tsD [])) (pastD r p []) ok1 ok1
  have e4 : deq (bk r p (tsD [])) (bk r p (tsD [])) = true := deq_refl _ 60 ok1
  have i2 : opIx (bk r p (tsD [])) (.int 2) = some (.tup []) := rfl
  have e5 : opEq (.tup []) (.tup []) = some (.bl true) := by rw [eq_okd (by rfl) (by rfl)]; rfl
  have e6 : opEq (.int 0) (.int 0) = some (.bl true) := by rw [eq_okd (by rfl) (by rfl)]; rfl
  simp [st2, callO, lenO, cmp2, fldO, ea, e2, e3, e4, e5, e6, i2]
  rfl
end
end Z

namespace Z
open PySem PySem.Spec PyProof.Rows L2 DL
section
variable {P : Program} {w : World} {K : PySem.W.Frag} {mg : Str → Option Value} {base : Heap}
/-! ## the word of an error -/
abbrev s__law_word : Stmt := topS 43
abbrev p__law_word : List Str := ["_law_call"]
abbrev n__law_word : List Str := ["_law_call", "_law_found", "e"]
theorem sc__law_word : FnScope n__law_word ["_law_call"] (defScope s__law_word) := ⟨rfl, rfl, rfl, by decide +kernel, rfl, by decide +kernel, by decide +kernel⟩
theorem nd_word : n__law_word.Nodup := by decide +kernel
/-- the classes that the clauses name -/
structure Cl14 (mg : Str → Option Value) : Type where
  c_InvalidBook : Addr
  g_InvalidBook : mg "InvalidBook" = some (.ref c_InvalidBook)
  c_InvalidRun : Addr
  g_InvalidRun : mg "InvalidRun" = some (.ref c_InvalidRun)
  c_InvalidMark : Addr
  g_InvalidMark : mg "InvalidMark" = some (.ref c_InvalidMark)
  c_InvalidTime : Addr
  g_InvalidTime : mg "InvalidTime" = some (.ref c_InvalidTime)
  c_InvalidTelling : Addr
  g_InvalidTelling : mg "InvalidTelling" = some (.ref c_InvalidTelling)
  c_InvalidTruth : Addr
  g_InvalidTruth : mg "InvalidTruth" = some (.ref c_InvalidTruth)
  c_InvalidPaper : Addr
  g_InvalidPaper : mg "InvalidPaper" = some (.ref c_InvalidPaper)
  c_InvalidIndex : Addr
  g_InvalidIndex : mg "InvalidIndex" = some (.ref c_InvalidIndex)
  c_InvalidText : Addr
  g_InvalidText : mg "InvalidText" = some (.ref c_InvalidText)
  c_NoTruth : Addr
  g_NoTruth : mg "NoTruth" = some (.ref c_NoTruth)
  c_Unlike : Addr
  g_Unlike : mg "Unlike" = some (.ref c_Unlike)
  c_NothingToUndo : Addr
  g_NothingToUndo : mg "NothingToUndo" = some (.ref c_NothingToUndo)
  c_TooMany : Addr
  g_TooMany : mg "TooMany" = some (.ref c_TooMany)
  c_SplitError : Addr
  g_SplitError : mg "SplitError" = some (.ref c_SplitError)
def Cl14.l {mg : Str → Option Value} (c : Cl14 mg) : List (Value × Option Str) := [(.ref c.c_InvalidBook, some "book"), (.ref c.c_InvalidRun, some "run"), (.ref c.c_InvalidMark, some "mark"), (.ref c.c_InvalidTime, some "time"), (.ref c.c_InvalidTelling, some "telling"), (.ref c.c_InvalidTruth, some "truth"), (.ref c.c_InvalidPaper, some "paper"), (.ref c.c_InvalidIndex, some "index"), (.ref c.c_InvalidText, some "text"), (.ref c.c_NoTruth, some "none"), (.ref c.c_Unlike, some "unlike"), (.ref c.c_NothingToUndo, some "undo"), (.ref c.c_TooMany, none), (.ref c.c_SplitError, some "base")]
theorem word_ok {X : Cx} {g : Addr} {cdg : Value} {q : Str} (c : Cl14 X.mg) : Gives X n__law_word "_law_word" (defScope s__law_word) g cdg (defBody s__law_word) "_law_call" q (TTw X.K c.l) := by
  refine word_gives (N2 := ["e"]) (by decide +kernel) rfl (fun s H => ?_)

  exact (ClOk.one ⟨rfl, by decide, .inl c.g_InvalidBook⟩ (fun a ob cls d pn _ _ => pss_one (ps_set (i := 1) nd_word rfl (.inl rfl) pe_str))
    (ClOk.one ⟨rfl, by decide, .inl c.g_InvalidRun⟩ (fun a ob cls d pn _ _ => pss_one (ps_set (i := 1) nd_word rfl (.inl rfl) pe_str))
    (ClOk.one ⟨rfl, by decide, .inl c.g_InvalidMark⟩ (fun a ob cls d pn _ _ => pss_one (ps_set (i := 1) nd_word rfl (.inl rfl) pe_str))
    (ClOk.one ⟨rfl, by decide, .inl c.g_InvalidTime⟩ (fun a ob cls d pn _ _ => pss_one (ps_set (i := 1) nd_word rfl (.inl rfl) pe_str))
    (ClOk.one ⟨rfl, by decide, .inl c.g_InvalidTelling⟩ (fun a ob cls d pn _ _ => pss_one (ps_set (i := 1) nd_word rfl (.inl rfl) pe_str))
    (ClOk.one ⟨rfl, by decide, .inl c.g_InvalidTruth⟩ (fun a ob cls d pn _ _ => pss_one (ps_set (i := 1) nd_word rfl (.inl rfl) pe_str))
    (ClOk.one ⟨rfl, by decide, .inl c.g_InvalidPaper⟩ (fun a ob cls d pn _ _ => pss_one (ps_set (i := 1) nd_word rfl (.inl rfl) pe_str))
    (ClOk.one ⟨rfl, by decide, .inl c.g_InvalidIndex⟩ (fun a ob cls d pn _ _ => pss_one (ps_set (i := 1) nd_word rfl (.inl rfl) pe_str))
    (ClOk.one ⟨rfl, by decide, .inl c.g_InvalidText⟩ (fun a ob cls d pn _ _ => pss_one (ps_set (i := 1) nd_word rfl (.inl rfl) pe_str))
    (ClOk.one ⟨rfl, by decide, .inl c.g_NoTruth⟩ (fun a ob cls d pn _ _ => pss_one (ps_set (i := 1) nd_word rfl (.inl rfl) pe_str))
    (ClOk.one ⟨rfl, by decide, .inl c.g_Unlike⟩ (fun a ob cls d pn _ _ => pss_one (ps_set (i := 1) nd_word rfl (.inl rfl) pe_str))
    (ClOk.one ⟨rfl, by decide, .inl c.g_NothingToUndo⟩ (fun a ob cls d pn _ _ => pss_one (ps_set (i := 1) nd_word rfl (.inl rfl) pe_str))
    (ClOk.skip ⟨rfl, by decide, .inl c.g_TooMany⟩
    (ClOk.one ⟨rfl, by decide, .inl c.g_SplitError⟩ (fun a ob cls d pn _ _ => pss_one (ps_set (i := 1) nd_word rfl (.inl rfl) pe_str))
    ClOk.nil))))))))))))))
theorem word_ok' {X : Cx} {mg : Str → Option Value} {g : Addr} {cdg : Value} {q : Str} (c : Cl14 mg) (h : X.mg = mg) : Gives X n__law_word "_law_word" (defScope s__law_word) g cdg (defBody s__law_word) "_law_call" q (TTw X.K c.l) := by
  subst h
  exact word_ok c
end
end Z

namespace Z
open PySem PySem.Spec PyProof.Rows L2 DL
section
variable {P : Program} {w : World} {K : PySem.W.Frag} {mg : Str → Option Value} {base : Heap}
/-! ## _law_back -/
theorem forL_out2 {α : Type} {g : D → S → Option S} {body : S → T} {R : D → S → Prop} (st : α → S) : ∀ (n : Nat) (J : Nat → α → Prop) (ds : List D) (a0 : α) (d : D), ds[n]? = some d → J 0 a0 →
    (∀ i d a, i < n → ds[i]? = some d → J i a → ∃ s1, g d (st a) = some s1 ∧ ∃ a', body s1 = .next (st a') ∧ J (i + 1) a') →
    (∀ a, J n a → ∃ s1, g d (st a) = some s1 ∧ ∃ e s2, body s1 = .ret e s2 ∧ R e s2) → ∃ e s2, forL g body ds (st a0) = .ret e s2 ∧ R e s2
  | 0, J, [], a0, d, hd, _, _, _ => by simp at hd
  | 0, J, c :: ds, a0, d, hd, h0, _, out => by
    obtain rfl : c = d := by simpa using hd
    obtain ⟨s1, e1, e, s2, e2, e3⟩ := out a0 h0
    refine ⟨e, s2, ?_, e3⟩
    unfold forL
    rw [e1]
    dsimp only
    rw [e2]
  | n + 1, J, [], a0, d, hd, _, _, _ => by simp at hd
  | n + 1, J, c :: ds, a0, d, hd, h0, step, out => by
    obtain ⟨s1, e1, a', e2, h1⟩ := step 0 c a0 (by omega) rfl h0
    obtain ⟨e, s2, e3, e4⟩ := forL_out2 st n (fun i a => J (i + 1) a) ds a' d (by simpa using hd) h1 (fun i d a hi hd hj => step (i + 1) d a (by omega) (by simpa using hd) hj) out
    refine ⟨e, s2, ?_, e4⟩
    unfold forL
    rw [e1]
    dsimp only
    rw [e2]
    exact e3

def wdK (n : Str) : Option Str := if n = "InvalidTelling" then some "telling" else if n = "InvalidIndex" then some "index" else if n = "NoTruth" then some "none" else if n = "NothingToUndo" then some "undo" else none
theorem wdK_tell : wdK "InvalidTelling" = some "telling" := rfl
theorem wdK_ix : wdK "InvalidIndex" = some "index" := rfl
theorem wdK_none : wdK "NoTruth" = some "none" := rfl
theorem wdK_undo : wdK "NothingToUndo" = some "undo" := rfl
inductive R_un : D → D → List D → FRo → Prop
  | no (n : D) (r p : Nat) : R_un n (pastD r p []) [] (.exc "NothingToUndo" none n (pastD r p []))
  | one (n : D) (r p : Nat) (l : List (List FW.Tel)) (ts : List FW.Tel) : R_un n (pastD r p (l ++ [ts])) [] (.ok .non (bk r p (tsD ts)) (pastD r p l))
theorem P_undo.can {m : FMo} (h : P_undo m) : ∀ n p ds r, R_un n p ds r → m n p ds = r := by
  intro n p ds r hR
  cases hR with
  | no r p => exact h.no _ _ _
  | one r p l ts => exact h.one _ _ _ _ _
theorem can_one {R : D → D → List D → FRo → Prop} (h : ∃ m : FMo, ∀ n p ds r, R n p ds r → m n p ds = r) {n p : D} {ds : List D} {r : FRo} (hR : R n p ds r) : canO R n p ds = r := by
  obtain ⟨m, h⟩ := h
  exact canO_eq h hR
inductive R_bk : D → D → List D → FRo → Prop
  | mk {r p : Nat} (ts : List FW.Tel) (l : List (List FW.Tel)) (hl : l.length ≤ 59) : R_bk (bk r p (tsD ts)) (pastD r p l) [] (.ok (.int (l.length : Int)) (bk r p (tsD ((l ++ [ts]).headD []))) (pastD r p []))
abbrev qB : Str := "_law_back.<locals>.<lambda>"
theorem ok__law_back (oc : OC K) (B : Bl mg) (c : Cl14 mg) (DWd : DefAt K mg "_law_word" s__law_word p__law_word) (hw : ∀ n w C, wdK n = some w → ECl mg n C → wdOf K C c.l = some w) (h_undo : ∀ b2, HasO P w K mg b2 1 "undo" ["self"] (canO R_un)) (c_un : ∃ m : FMo, ∀ n p ds r, R_un n p ds r → m n p ds = r)
    (DB : DefAt K mg "_law_back" s__law_back p__law_back) {cc Pt : Addr} (hcd : DB.cdv = .ref cc) (TB : LamX.TabB base mg cc Pt) (hT : (Pt, qB) ∈ lamT) (hu : ∀ p ∈ lamT, p.1 = Pt → p.2 = qB) :
    HasG P w K mg base 4 "_law_back" ["_law_desk"] (canO R_bk) := by
  refine hasG_at (k := 3) DB sc__law_back fun A outer s H E hr tk hp => ?_
  let X : Cx := cxOf (L2.CX P w) P w K mg base n__law_back "_law_back" (defScope s__law_back) DB.g DB.cdv A outer s H E
  refine ⟨_, dss_cons (ds_set 1 sc__law_back.nd de_int) (dss_cons (ds_for hp rfl (di_range1 rfl B.range (da_cons de_int da_nil)) (dg_v 2 sc__law_back.nd) (dss_cons (ds_own 3 sc__law_back.nd da_nil)
    (dss_cons (ds_set 4 sc__law_back.nd (de_wordB (X := X) (k := 1) (q := "") (l := c.l) (wd := wdK) (N2 := ["e"]) (y := "_law_found") (a := "_law_call") (by rfl) DWd.m DWd.kp DWd.lk DWd.cd DWd.b sc__law_word (.inl rfl) (fun b2 => word_ok' c (by rfl)) hw TB hcd hT hu (hr.mono (by decide)) (by exact LamX.lamS_by (by rfl)) (by rfl) (fun _ _ _ _ _ => by rfl) (fun _ => rfl)
      (fun σ b2 R A2 outer2 s2 H2 E2 f2 c2 hr2 => de_appE 3 (DE.at_ (de_methO0 0 oc (h_undo b2) (takes_of rfl rfl rfl rfl) hr2)))))
    (dss_cons (ds_if (dt_cmp (od_eq hr) (de_v 4) de_str (nomark _)) (dss_one (ds_ret (de_v 1))) dss_nil) (dss_cons (ds_if (dt_cmp (od_ne hr) (de_v 3) (de_lst (da_cons de_non da_nil)) (nomark _)) (dss_one (ds_ret (de_neg de_int))) dss_nil) (dss_one (ds_set 1 sc__law_back.nd (de_op od_add (de_v 1) de_int)))))))) (dss_one (ds_ret de_int))), ?_⟩
  intro n p ds rr h
  rcases h with ⟨ts, l, hl⟩
  rename_i r p
  have q1 : ∀ s, toR1 [.int 60] s = .ok (rngI 0 ((60 : Nat) : Int)) s := fun s => toR1_n (n := 60) (by decide)
  have c1 : opEq (.str "") (.str "undo") = some (.bl false) := by rw [eq_okd (by decide +kernel) (by decide +kernel)]; rfl
  have c2 : opEq (.str "undo") (.str "undo") = some (.bl true) := by rw [eq_okd (by decide +kernel) (by decide +kernel)]; rfl
  have c3 : opNe (.lst [.non]) (.lst [.non]) = some (.bl false) := by rw [ne_okd (by decide +kernel) (by decide +kernel)]; rfl
  have sz : 0 < sizeLine := by decide +kernel
  simp [stO, q1]
  generalize hf : forL _ _ _ _ = q
  let st : List FW.Tel × List (List FW.Tel) × Nat × Option Sl × Option Sl × Option Sl → S := fun a => ⟨[some (Sl.obj (bk r p (tsD a.1)) (pastD r p a.2.1)), some (Sl.val (.int (a.2.2.1 : Int))), a.2.2.2.1, a.2.2.2.2.1, a.2.2.2.2.2], none⟩
  have key : ∃ e s2, q = .ret e s2 ∧ e = .int (l.length : Int) ∧ getO 0 s2 = some (bk r p (tsD ((l ++ [ts]).headD [])), pastD r p []) := by
    rw [← hf]; clear hf
    refine forL_out2 (R := fun e s2 => e = .int (l.length : Int) ∧ getO 0 s2 = some (bk r p (tsD ((l ++ [ts]).headD [])), pastD r p [])) st l.length (fun i a => a.2.2.1 = i ∧ ∃ rest, l ++ [ts] = (a.2.1 ++ [a.1]) ++ rest ∧ rest.length = i) _ (ts, l, 0, none, none, none) _ (List.getElem?_eq_getElem (by show l.length < (rngI 0 ((60 : Nat) : Int)).length; rw [rng_len]; omega)) ⟨rfl, [], by simp, rfl⟩ ?_ ?_
    · rintro i d ⟨now, past, cnt, o2, o3, o4⟩ hi hd ⟨rfl, rest, e, hr⟩
      dsimp only at e hr hi ⊢
      have hlen := congrArg List.length e
      simp at hlen
      have hne : past ≠ [] := fun z => by subst z; simp at hlen; omega
      obtain ⟨init, x, rfl⟩ : ∃ init x, past = init ++ [x] := ⟨past.dropLast, past.getLast hne, (List.dropLast_concat_getLast hne).symm⟩
      have e1 := can_one c_un (.one (bk r p (tsD now)) r p init x)
      refine ⟨_, rfl, (x, init, cnt + 1, some (.val d), some (.val (.lst [.non])), some (.val (.str ""))), ?_, rfl, now :: rest, by simp [e], by simp [hr]⟩
      simp [st, fW, callO, e1, isOwn, apndE, c1, c3, sz]
    · rintro ⟨now, past, cnt, o2, o3, o4⟩ ⟨h0, rest, e, hr⟩
      dsimp only at e hr h0 ⊢
      have hlen := congrArg List.length e
      simp at hlen
      have hne : past = [] := List.eq_nil_of_length_eq_zero (by omega)
      subst hne
      have e1 := can_one c_un (.no (bk r p (tsD now)) r p)
      refine ⟨_, rfl, .int (cnt : Int), ?_⟩
      rw [e]
      simp [st, fW, callO, e1, isOwn, apndE, c2, wdK_undo, h0]
  obtain ⟨e, s2, rfl, rfl, h2⟩ := key
  simp [DL.T.finO, h2]
end
end Z

namespace Z
open PySem PySem.Spec PyProof.Rows L2 DL
section
variable {P : Program} {w : World} {K : PySem.W.Frag} {mg : Str → Option Value} {base : Heap}
/-! ## _law_ended -/
def g_ne : FMo := fun n _ ds => match n, ds with
  | .tup [.int r, .int p, _], [.int many, .str b] => if b = "" then .ok (tsD [s28]) (bk r.toNat p.toNat (tsD [s28])) (pastD r.toNat p.toNat (pN many.toNat ++ [[]])) else
      if b = "telling" then .exc "InvalidTelling" none (bk r.toNat p.toNat (tsD [s28])) (pastD r.toNat p.toNat (pN many.toNat ++ [[]])) else .exc "NoTruth" none (bk r.toNat p.toNat (tsD [s28])) (pastD r.toNat p.toNat (pN many.toNat ++ [[]]))
  | _, _ => .stuck
theorem c_ne : ∃ m : FMo, ∀ n p ds r, R_ne n p ds r → m n p ds = r := by
  refine ⟨g_ne, fun n p ds r h => ?_⟩
  cases h <;> rfl
def lamE1 : LamC := lamE (defBody s__law_ended)[1]?
def lamIf : Option Stmt → LamC
  | some (.If _ b _ _) => lamE b[0]?
  | _ => lamNo
def lamE2 : LamC := lamIf (defBody s__law_ended)[2]?
abbrev qE : Str := "_law_ended.<locals>.<lambda>"
theorem lamE1_sc : NdefX.NScope ["_law_one", "_law_many", "_law_bad"] ["_law_one"] ["_law_many", "_law_bad"] lamE1.scope := NdefX.nscope_by (by decide +kernel)
theorem lamE2_sc : NdefX.NScope ["_law_it", "_law_many"] ["_law_it"] ["_law_many"] lamE2.scope := NdefX.nscope_by (by decide +kernel)
noncomputable def mNe (i : Int) (b : Str) : D → D → FRo := fun n p => canO R_ne n p [.int i, .str b]
theorem clW_E1 {b2 : Heap} {cells : List (Str × Addr)} {v1 v2 : V} {i : Int} {b : Str} (h_ne : HasG P w K mg b2 13 "_law_nested" ["_law_desk", "_law_many", "_law_bad"] (canO R_ne)) (C : CellsB (cloFrom cells lamE1.scope.names []) ["_law_many", "_law_bad"] [some v1, some v2] b2) (sv1 : Sca v1 (.int i)) (sv2 : Sca v2 (.str b)) :
    ClW P w K mg b2 14 qE lamE1 cells (mNe i b) := by
  refine ClW.can (clW_of (vs := [v1, v2]) (ds := [.int i, .str b]) (k := 13) lamE1_sc (fun _ _ _ _ _ => by rfl) C (.cons sv1 (.cons sv2 .nil)) fun A outer s H E f cc hr2 => (show DE _ _ lamE1.body _ from de_callG 0 h_ne (takes_of rfl rfl rfl rfl) hr2 (da_cons (de_v 1) (da_cons (de_v 2) da_nil)))) fun n p => ?_
  by_cases z : ∃ r, R_ne n p [.int i, .str b] r
  · obtain ⟨r, z⟩ := z
    right
    have e := can_one c_ne z
    unfold mNe
    rw [e]
    cases z <;> simp [stO, callO, e] <;> rfl
  · left
    unfold mNe canO
    rw [dif_neg z]
theorem clW_E2 {b2 : Heap} {cells : List (Str × Addr)} {v : V} {i : Int} (c_do : ∃ m : FMo, ∀ n p ds r, R_do n p ds r → m n p ds = r) (h_do : HasG P w K mg b2 10 "_law_do" ["_law_desk", "_law_many", "_law_bad"] (canO R_do)) (C : CellsB (cloFrom cells lamE2.scope.names []) ["_law_many"] [some v] b2) (sv : Sca v (.int i)) :
    ClW P w K mg b2 14 qE lamE2 cells (mD i true) := by
  refine ClW.can (clW_of (vs := [v]) (ds := [.int i]) (k := 13) lamE2_sc (fun _ _ _ _ _ => by rfl) C (.cons sv .nil) fun A outer s H E f cc hr2 => (show DE _ _ lamE2.body _ from de_callG 0 h_do (takes_of rfl rfl rfl rfl) (hr2.mono (by decide)) (da_cons (de_v 1) (da_cons de_bl da_nil)))) fun n p => ?_
  by_cases z : ∃ r, R_do n p [.int i, .bl true] r
  · obtain ⟨r, z⟩ := z
    right
    have e := can_one c_do z
    unfold mD
    rw [e]
    cases z <;> simp [stO, callO, e] <;> rfl
  · left
    unfold mD canO
    rw [dif_neg z]
def capS (j : Nat) (s : S) : Option Str := match s.sl[j]? with
  | some (some (.val (.str x))) => some x
  | _ => none
theorem capS_some {j : Nat} {s : S} {x : Str} (h : capS j s = some x) : s.sl[j]? = some (some (.val (.str x))) := by
  unfold capS at h
  split at h
  · injection h with h; subst h; assumption
  · cases h
noncomputable def mAtE (cells : List (Str × Addr)) : Option Int → Option Str → FMo
  | some i, some b => if b = "index" then canO (R_at (mD i true) (.lam qE lamE2 cells)) else canO (R_at (mNe i b) (.lam qE lamE1 cells))
  | _, _ => fun _ _ _ => .stuck
theorem mAtE_ix {cells : List (Str × Addr)} {i : Int} : mAtE cells (some i) (some "index") = canO (R_at (mD i true) (.lam qE lamE2 cells)) := by simp [mAtE]
theorem mAtE_no {cells : List (Str × Addr)} {i : Int} {b : Str} (h : ¬ b = "index") : mAtE cells (some i) (some b) = canO (R_at (mNe i b) (.lam qE lamE1 cells)) := by simp only [mAtE]; exact if_neg h
inductive R_en : D → D → List D → FRo → Prop
  | bad {r p : Nat} (z : Sz r p) {many : Nat} (hm : many ≤ 8) (b : Str) (hb : b = "index" ∨ b = "telling" ∨ b = "none") : R_en (bk r p (tsD [])) (pastD r p []) [.int (many : Int), .str b] (.ok (.str b) (bk r p (tsD [])) (pastD r p []))
  | good {r p : Nat} (z : Sz r p) {many : Nat} (hm : many ≤ 8) : R_en (bk r p (tsD [])) (pastD r p []) [.int (many : Int), .str ""] (.ok (tsD [s28]) (bk r p (tsD [s28])) (pastD r p (pN many ++ [[]])))
  | again {r p : Nat} (z : Sz r p) (l : List (List FW.Tel)) (hl : l.length ≤ 60) : R_en (bk r p (tsD [s28])) (pastD r p l) [.int 2, .str "index"] (.ok (.str "index") (bk r p (tsD [s28])) (pastD r p l))
theorem ok__law_ended (oc : OC K) (B : Bl mg) (c : Cl14 mg) (DWd : DefAt K mg "_law_word" s__law_word p__law_word) (hw : ∀ n w C, wdK n = some w → ECl mg n C → wdOf K C c.l = some w) (T_att : MThere K "attempt" "Desk.attempt" s_Desk_attempt p_Desk_attempt)
    (c_do : ∃ m : FMo, ∀ n p ds r, R_do n p ds r → m n p ds = r) (h_do : ∀ b2, HasG P w K mg b2 10 "_law_do" ["_law_desk", "_law_many", "_law_bad"] (canO R_do))
    (h_ne : ∀ b2 : Heap, (∀ a o, base.get? a = some o → b2.get? a = some o) → HasG P w K mg b2 13 "_law_nested" ["_law_desk", "_law_many", "_law_bad"] (canO R_ne))
    (DE_ : DefAt K mg "_law_ended" s__law_ended p__law_ended) {cc Pt : Addr} (hcd : DE_.cdv = .ref cc) (TB : LamX.TabB base mg cc Pt) (hT : (Pt, qE) ∈ lamT) (hu : ∀ p ∈ lamT, p.1 = Pt → p.2 = qE) :
    HasG P w K mg base 18 "_law_ended" ["_law_desk", "_law_many", "_law_bad"] (canO R_en) := by
  have T2 := T_att
  obtain ⟨ga, fda, Fa, Ma, ba⟩ := T_att
  refine hasG_at (k := 17) DE_ sc__law_ended fun A outer s H E hr tk hp => ?_
  let X : Cx := cxOf (L2.CX P w) P w K mg base n__law_ended "_law_ended" (defScope s__law_ended) DE_.g DE_.cdv A outer s H E
  have hf1 : ∀ y ∈ lamE1.scope.names, y.2 = .free → (defScope s__law_ended).names.lookup y.1 = some .cell ∨ (defScope s__law_ended).names.lookup y.1 = some .free := by decide +kernel
  have hf2 : ∀ y ∈ lamE2.scope.names, y.2 = .free → (defScope s__law_ended).names.lookup y.1 = some .cell ∨ (defScope s__law_ended).names.lookup y.1 = some .free := by decide +kernel
  have FA : ∀ (σ : L2.St) (b2 : Heap), Rdy X σ b2 → ∀ (s : S) (va : VA) (HP H : Hp), Rel X.K va s σ HP H → ((capI 1 s).isSome && (capS 2 s).isSome) = true → FnR X.prog X.w X.K X.mg b2 (L2.CX X.prog X.w) 15 ga (spO X.K X.mg 2 (mAtE X.env.cells (capI 1 s) (capS 2 s))) := by
    intro σ b2 R s va HP H rl hc
    obtain ⟨hc1, hc2⟩ := Bool.and_eq_true_iff.mp hc
    obtain ⟨i, hi⟩ := Option.isSome_iff_exists.mp hc1
    obtain ⟨b, hb⟩ := Option.isSome_iff_exists.mp hc2
    obtain ⟨v1, hσ1, dv1⟩ := rl.val 1 _ (capI_some hi)
    obtain ⟨v2, hσ2, dv2⟩ := rl.val 2 _ (capS_some hb)
    rw [hi, hb]
    by_cases hx : b = "index"
    · rw [hx, mAtE_ix]
      have C : CellsB (cloFrom X.env.cells lamE2.scope.names []) ["_law_many"] ([1].map (NdefX.slotAt σ)) b2 := cellsB_of R (NdefX.Caps.made R.ok hf2 (by decide +kernel) rfl)
      rw [show [1].map (NdefX.slotAt σ) = [some v1] by simp [NdefX.slotAt_of hσ1]] at C
      obtain ⟨f2, fd2, F2, M2, b2'⟩ := attR oc B (clW_E2 (P := P) (w := w) c_do (h_do b2) C (dv1.sca rfl)) T2
      have ef : f2 = ga := by
        have := M2.at_.symm.trans Ma.at_
        simpa using this
      subst ef
      exact fnR_of (X := { X with base := b2 }) F2 b2'
    · rw [mAtE_no hx]
      have C : CellsB (cloFrom X.env.cells lamE1.scope.names []) ["_law_many", "_law_bad"] ([1, 2].map (NdefX.slotAt σ)) b2 := cellsB_of R (NdefX.Caps.made R.ok hf1 (by decide +kernel) rfl)
      rw [show [1, 2].map (NdefX.slotAt σ) = [some v1, some v2] by simp [NdefX.slotAt_of hσ1, NdefX.slotAt_of hσ2]] at C
      obtain ⟨f2, fd2, F2, M2, b2'⟩ := attR oc B (clW_E1 (P := P) (w := w) (h_ne b2 R.sub) C (dv1.sca rfl) (dv2.sca rfl)) T2
      have ef : f2 = ga := by
        have := M2.at_.symm.trans Ma.at_
        simpa using this
      subst ef
      exact fnR_of (X := { X with base := b2 }) F2 b2'
  refine ⟨_, dss_cons (ds_own 3 sc__law_ended.nd da_nil) (dss_cons (ds_set 4 sc__law_ended.nd (de_lamW (q := qE) (cells := X.env.cells) lamE1 TB hcd hT hu hf1 (by rfl) (by rfl) rfl))
    (dss_cons (ds_if (dt_cmp (od_eq hr) (de_v 2) de_str (nomark _)) (dss_one (ds_set 4 sc__law_ended.nd (de_lamW (q := qE) (cells := X.env.cells) lamE2 TB hcd hT hu hf2 (by rfl) (by rfl) rfl))) dss_nil)
    (dss_cons (ds_set 5 sc__law_ended.nd (de_wordB (X := X) (k := 15) (q := "") (l := c.l) (wd := wdK) (N2 := ["e"]) (y := "_law_found") (a := "_law_call") (by rfl) DWd.m DWd.kp DWd.lk DWd.cd DWd.b sc__law_word (.inl rfl) (fun b2 => word_ok' c (by rfl)) hw TB hcd hT hu (hr.mono (by decide)) (by exact LamX.lamS_by (by rfl)) (by rfl) (fun _ _ _ _ _ => by rfl) (fun _ => rfl)
      (fun σ b2 R A2 outer2 s2 H2 E2 f2 c2 hr2 => de_appE 3 (de_methAt (k := 15) (n := 2) (cap := fun s => (capI 1 s).isSome && (capS 2 s).isSome) (mA := fun s => mAtE X.env.cells (capI 1 s) (capS 2 s)) 0 oc Ma (FA σ b2 R) (takes_of rfl rfl rfl rfl) hr2 (da_cons (de_v 4) da_nil)))))
    (dss_one (ds_ret (de_if (dt_cmp (od_eq hr) (de_v 5) de_str (nomark _)) (de_ixr 3 de_int) (de_v 5))))))), ?_⟩
  intro n p ds rr h
  have sz : 0 < sizeLine := by decide +kernel
  have ei : ∀ {r p : Nat} (z : Sz r p) {ts : List FW.Tel} (ht : ts = [] ∨ ts = [s28]) (l : List (List FW.Tel)) (hl : l.length ≤ 60) (many : Nat) (hm : many ≤ 8), canO (R_at (mD (many : Int) true) (.lam qE lamE2 X.env.cells)) (bk r p (tsD ts)) (pastD r p l) [.lam qE lamE2 X.env.cells] = .exc "InvalidIndex" none (bk r p (tsD ts)) (pastD r p l) :=
    by intro r p z ts ht l hl many hm; exact at_eq ⟨rfl, .inr ⟨_, _, _, can_one c_do (R_do.bad z ht l hl hm), rfl⟩⟩
  have n1 : ¬ ("telling" : Str) = "index" := by decide
  have n2 : ¬ ("none" : Str) = "index" := by decide
  have n3 : ¬ ("" : Str) = "index" := by decide
  have q1 : opEq (.str "index") (.str "index") = some (.bl true) := by rw [eq_okd (by decide +kernel) (by decide +kernel)]; rfl
  have q2 : opEq (.str "telling") (.str "index") = some (.bl false) := by rw [eq_okd (by decide +kernel) (by decide +kernel)]; rfl
  have q3 : opEq (.str "none") (.str "index") = some (.bl false) := by rw [eq_okd (by decide +kernel) (by decide +kernel)]; rfl
  have q4 : opEq (.str "") (.str "index") = some (.bl false) := by rw [eq_okd (by decide +kernel) (by decide +kernel)]; rfl
  have w1 : opEq (.str "index") (.str "") = some (.bl false) := by rw [eq_okd (by decide +kernel) (by decide +kernel)]; rfl
  have w2 : opEq (.str "telling") (.str "") = some (.bl false) := by rw [eq_okd (by decide +kernel) (by decide +kernel)]; rfl
  have w3 : opEq (.str "none") (.str "") = some (.bl false) := by rw [eq_okd (by decide +kernel) (by decide +kernel)]; rfl
  have w4 : opEq (.str "") (.str "") = some (.bl true) := by rw [eq_okd (by decide +kernel) (by decide +kernel)]; rfl
  cases h with
  | bad z hm b hb =>
    rename_i r p many
    rcases hb with rfl | rfl | rfl
    · simp [stO, callO, capI, capS, mAtE_ix, ei z (.inl rfl) [] (by decide) many hm, fW, isOwn, apndE, wdK_ix, q1, w1, sz]
    · have e1 : canO (R_at (mNe (many : Int) "telling") (.lam qE lamE1 X.env.cells)) (bk r p (tsD [])) (pastD r p []) [.lam qE lamE1 X.env.cells] = .exc "InvalidTelling" none (bk r p (tsD [])) (pastD r p []) := at_eq ⟨rfl, .inr ⟨_, _, _, can_one c_ne (R_ne.tell z hm), rfl⟩⟩
      simp [stO, callO, capI, capS, mAtE_no n1, e1, fW, isOwn, apndE, wdK_tell, q2, w2, sz]
    · have e1 : canO (R_at (mNe (many : Int) "none") (.lam qE lamE1 X.env.cells)) (bk r p (tsD [])) (pastD r p []) [.lam qE lamE1 X.env.cells] = .exc "NoTruth" none (bk r p (tsD [])) (pastD r p []) := at_eq ⟨rfl, .inr ⟨_, _, _, can_one c_ne (R_ne.non z hm), rfl⟩⟩
      simp [stO, callO, capI, capS, mAtE_no n2, e1, fW, isOwn, apndE, wdK_none, q3, w3, sz]
  | good z hm =>
    rename_i r p many
    have e1 : canO (R_at (mNe (many : Int) "") (.lam qE lamE1 X.env.cells)) (bk r p (tsD [])) (pastD r p []) [.lam qE lamE1 X.env.cells] = .ok (tsD [s28]) (bk r p (tsD [s28])) (pastD r p (pN many ++ [[]])) := at_eq ⟨rfl, .inl ⟨_, _, _, can_one c_ne (R_ne.good z hm), rfl⟩⟩
    simp [stO, callO, capI, capS, mAtE_no n3, e1, fW, isOwn, apndE, q4, w4, sz, ixR]
  | again z l hl =>
    rename_i r p
    have e1 := ei z (.inr rfl) l hl 2 (by decide)
    simp at e1
    simp [stO, callO, capI, capS, mAtE_ix, e1, fW, isOwn, apndE, wdK_ix, q1, w1, sz]
end
end Z

namespace Z
open PySem PySem.Spec PyProof.Rows L2 DL
section
variable {P : Program} {w : World} {K : PySem.W.Frag} {mg : Str → Option Value} {base : Heap}
/-! ## the law -/
def g_en : FMo := fun n p ds => match n, ds with
  | .tup [.int r, .int pp, _], [.int many, .str b] => if b = "" then .ok (tsD [s28]) (bk r.toNat pp.toNat (tsD [s28])) (pastD r.toNat pp.toNat (pN many.toNat ++ [[]])) else .ok (.str b) n p
  | _, _ => .stuck
theorem c_en : ∃ m : FMo, ∀ n p ds r, R_en n p ds r → m n p ds = r := by
  refine ⟨g_en, fun n p ds r h => ?_⟩
  cases h with
  | bad z hm b hb => rcases hb with rfl | rfl | rfl <;> rfl
  | good z hm => rfl
  | again z l hl => rfl
def g_bk : FMo := fun n p _ => match p with
  | .tup [] => .ok (.int 0) n (.tup [])
  | .tup (x :: xs) => .ok (.int ((xs.length + 1 : Nat) : Int)) x (.tup [])
  | _ => .stuck
theorem c_bk : ∃ m : FMo, ∀ n p ds r, R_bk n p ds r → m n p ds = r := by
  refine ⟨g_bk, fun n p ds r h => ?_⟩
  cases h with
  | mk ts l hl =>
    cases l with
    | nil => rfl
    | cons x xs => simp [g_bk, pastD]
theorem turn_head (n : Nat) (l : List (List FW.Tel)) : (turnP [] n ++ [] :: l).headD [] = [] := by
  induction n generalizing l with
  | zero => rfl
  | succ n ih =>
    have := ih ([[] ++ [s19]] ++ [] :: l)
    simpa [turnP] using this
theorem pN_len (n : Nat) : (pN n).length = 2 * n + 1 := by simp [pN, turnP_len]
theorem turn_headQ (n : Nat) (l : List (List FW.Tel)) : ((turnP [] n ++ [] :: l).head?).getD [] = [] := by
  have := turn_head n l
  rwa [List.headD_eq_head?_getD] at this
theorem deq_ne1 {r p : Nat} : deq (bk r p (tsD [s28])) (bk r p (tsD [])) = false := by
  simp [bk, tsD, deq, deqA]
theorem forL_stT {α : Type} {g : D → S → Option S} {body : S → T} (st : α → S) (ds : List D) (a0 : α)
    (h : ∀ (i : Nat) d a, ds[i]? = some d → ∃ s1, g d (st a) = some s1 ∧ ∀ I : S → Prop, (∀ a', I (st a')) → (body s1).nx I) : ∃ a, forL g body ds (st a0) = .next (st a) := by
  obtain ⟨a, e, -⟩ := forL_st (g := g) (body := body) st (fun _ _ => True) ds a0 trivial (fun i d a hd _ => by
    obtain ⟨s1, e1, h1⟩ := h i d a hd
    exact ⟨s1, e1, fun I hI => h1 I fun a' => hI a' trivial⟩)
  exact ⟨a, e⟩
theorem ok_law (oc : OC K) (B : Bl mg) (hDesk : mg "Desk" = some (.ref objC)) (h__law_vial_of : ∃ m, Has P w K mg base 1 "_law_vial_of" p__law_vial_of m ∧ P_vial m) (h__law_drop : ∃ m, Has P w K mg base 1 "_law_drop" p__law_drop m ∧ P_drop m)
    (h_mk : ∃ m, HasMk P w K mg base 2 ["self", "runs", "pieces"] m ∧ P_mk m) (h_eq : ∃ m, Has2 P w K mg base 1 ["self", "other"] m ∧ ∀ n p n' p', okd 60 n = true → okd 60 n' = true → m n p n' p' = .ok (.bl (deq n n')) n p n' p')
    (h_len : ∃ m, HasO P w K mg base 1 "__len__" ["self"] m ∧ P_len m) (h_book : HasP P w K mg base 1 "book" obf1) (h_iadd : ∃ m, HasIa P w K mg base 7 ["self", "tellings"] m ∧ P_iadd m)
    (h__law_ended : HasG P w K mg base 18 "_law_ended" ["_law_desk", "_law_many", "_law_bad"] (canO R_en)) (h__law_back : HasG P w K mg base 4 "_law_back" ["_law_desk"] (canO R_bk))
    (h__law_failed_right : ∃ m : FM2, HasG2 P w K mg base 12 "_law_failed_right" ["_law_desk", "_law_twin"] m ∧ ∀ r p, Sz r p → m (bk r p (tsD [])) (pastD r p []) (bk r p (tsD [])) (pastD r p []) = .ok (.bl true) (bk r p (tsD [])) (pastD r p []) (bk r p (tsD [])) (pastD r p []))
    {fl : Addr} {fdl : FuncData} (S0 : Stand K mg "law" s_law p_law fl fdl) : ∃ m, FnD P w K mg base 19 fl fdl p_law m ∧ ∀ ns : List Int, ns.length ≤ 63 → m [.scr ns] none = .ok (.bl true) none := by
  obtain ⟨m1, h__law_vial_of, po⟩ := h__law_vial_of
  obtain ⟨m2, h__law_drop, pd⟩ := h__law_drop
  obtain ⟨m3, h_mk, pk⟩ := h_mk
  obtain ⟨m4, h_eq, pe⟩ := h_eq
  obtain ⟨m5, h_len, pl⟩ := h_len
  obtain ⟨m6, h_iadd, pi⟩ := h_iadd
  obtain ⟨m7, h__law_failed_right, pf⟩ := h__law_failed_right
  refine ⟨_, fnd_any S0 sc_law fun f cdv A outer s H E hr tk hp => (dss_cons (ds_for hp rfl (di_range1 rfl B.range (da_cons (de_op od_add de_int (de_callB (cd_min rfl) B.min PyProof.Rows.boot_min (da_cons (de_callB cd_len B.len PySem.boot_len (da_cons (de_v 0) da_nil)) (da_cons de_int da_nil)))) da_nil)) (dg_v 1 sc_law.nd) (dss_cons (dcO 2 h__law_vial_of tk (hr.mono (by decide)) sc_law.nd (da_cons (de_v 0) (da_cons (de_v 1) da_nil)))
      (dss_cons (ds_par3 3 4 5 rfl sc_law.nd (da_cons (de_op od_add de_int (dcv 2 h__law_drop tk (hr.mono (by decide)) (da_cons de_int da_nil))) (da_cons (de_op od_add de_int (dcv 2 h__law_drop tk (hr.mono (by decide)) (da_cons de_int da_nil))) (da_cons (dcv 2 h__law_drop tk (hr.mono (by decide)) (da_cons de_int da_nil)) da_nil))))
      (dss_cons (ds_new2 6 7 rfl sc_law.nd (pe_newO h_mk (hr.mono (by decide)) hDesk (da_cons (de_v 3) (da_cons (de_v 4) da_nil))) (pe_newO h_mk (hr.mono (by decide)) hDesk (da_cons (de_v 3) (da_cons (de_v 4) da_nil))))
      (dss_cons (ds_for hp rfl (di_seq (de_lst (da_cons de_str (da_cons de_str (da_cons de_str da_nil))))) (dg_v 8 sc_law.nd) (dss_cons (ds_if (dt_w (dw_or (dt_cmp (od_ne hr) (de_callG 6 h__law_ended tk (hr.mono (by decide)) (da_cons (de_v 5) (da_cons (de_v 8) da_nil))) (de_v 8) (nomark _)) (dw_or1 (dt_cmp (od_ne hr) (de_lenO 6 h_len (hr.mono (by decide)) B.len) de_int (nomark _))))) (dss_one (ds_ret de_bl)) dss_nil)
        (dss_one (ds_if (dt_w (dw_or (dt_cmp (od_ne hr) (de_callG 6 h__law_back tk (hr.mono (by decide)) da_nil) de_int (nomark _)) (dw_or1 (dt_neO 6 7 h_eq (hr.mono (by decide)))))) (dss_one (ds_ret de_bl)) dss_nil))))
      (dss_cons (ds_if (dt_not (dt_val (de_call2 6 7 h__law_failed_right (hr.mono (by decide))))) (dss_one (ds_ret de_bl)) dss_nil)
      (dss_cons (ds_set 9 sc_law.nd (de_tup (da_cons (de_tup (da_cons de_str (da_cons de_int (da_cons de_int (da_cons de_int (da_cons de_int (da_cons de_int da_nil))))))) da_nil)))
      (dss_cons (ds_if (dt_w (dw_or (dt_cmp (od_ne hr) (de_callG 6 h__law_ended tk (hr.mono (by decide)) (da_cons (de_v 5) (da_cons de_str da_nil))) (de_v 9) (nomark _)) (dw_or (dt_cmp (od_ne hr) (de_lenO 6 h_len (hr.mono (by decide)) B.len) (de_op od_add (de_op od_mul de_int (de_v 5)) de_int) (nomark _)) (dw_or1 (dt_eqO 6 7 h_eq (hr.mono (by decide))))))) (dss_one (ds_ret de_bl)) dss_nil)
      (dss_cons (ds_if (dt_w (dw_or (dt_cmp (od_ne hr) (de_callG 6 h__law_ended tk (hr.mono (by decide)) (da_cons de_int (da_cons de_str da_nil))) de_str (nomark _)) (dw_or (dt_cmp (od_ne hr) (de_lenO 6 h_len (hr.mono (by decide)) B.len) (de_op od_add (de_op od_mul de_int (de_v 5)) de_int) (nomark _)) (dw_or1 (dt_cmp (od_ne hr) (de_ix (de_propO 6 false oc h_book (hr.mono (by decide))) de_int) (de_v 9) (nomark _)))))) (dss_one (ds_ret de_bl)) dss_nil)
      (dss_cons (ds_iaddO 7 h_iadd (hr.mono (by decide)) sc_law.nd (de_v 9))
      (dss_cons (ds_if (dt_w (dw_or (dt_not (dt_eqO 6 7 h_eq (hr.mono (by decide)))) (dw_or1 (dt_cmp (od_ne hr) (de_propO 7 false oc h_book (hr.mono (by decide))) (de_tup (da_cons (de_v 3) (da_cons (de_v 4) (da_cons (de_v 9) da_nil)))) (nomark _))))) (dss_one (ds_ret de_bl)) dss_nil)
      (dss_one (ds_if (dt_w (dw_or (dt_cmp (od_ne hr) (de_callG 6 h__law_back tk (hr.mono (by decide)) da_nil) (de_op od_add (de_op od_mul de_int (de_v 5)) de_int) (nomark _)) (dw_or1 (dt_neNew 6 h_eq (hr.mono (by decide)) (pe_newO h_mk (hr.mono (by decide)) hDesk (da_cons (de_v 3) (da_cons (de_v 4) da_nil))))))) (dss_one (ds_ret de_bl)) dss_nil)))))))))))))
    (dss_one (ds_ret de_bl))), ?_⟩
  intro ns hns
  simp [toR1_ok (1 + min (ns.length : Int) 8) _ (by omega) (by omega)]
  generalize hf : forL _ _ _ _ = q
  let st : Option Sl × Option Sl × Option Sl × Option Sl × Option Sl × Option Sl × Option Sl × Option Sl × Option Sl → S := fun ⟨a1, a2, a3, a4, a5, a6, a7, a8, a9⟩ =>
    ⟨[some (Sl.val (D.scr ns)), a1, a2, a3, a4, a5, a6, a7, a8, a9], none⟩
  have key : ∃ a, q = .next (st a) ∧ True := by
    rw [← hf]; clear hf
    refine forL_st st (fun _ _ => True) (rngI 0 (1 + min (ns.length : Int) 8)) (none, none, none, none, none, none, none, none, none) trivial ?_
    rintro i d ⟨a1, a2, a3, a4, a5, a6, a7, a8, a9⟩ hd -
    obtain ⟨ed, hd2⟩ := rngI_get hd
    rw [Int.zero_add] at ed hd2
    refine ⟨_, rfl, fun I hI => ?_⟩
    obtain ⟨v, e0, hv⟩ := po ns i (by omega) (by omega)
    obtain ⟨x1, v1, e1, l1, u1, hv1⟩ := pd v 3 hv (by decide) (by decide)
    obtain ⟨x2, v2, e2, l2, u2, hv2⟩ := pd v1 4 hv1 (by decide) (by decide)
    obtain ⟨x3, v3, e3, l3, u3, hv3⟩ := pd v2 9 hv2 (by decide) (by decide)
    obtain ⟨r, er, r1, r3⟩ : ∃ r : Nat, 1 + x1 = (r : Int) ∧ 1 ≤ r ∧ r ≤ 3 := ⟨(1 + x1).toNat, by omega, by omega, by omega⟩
    obtain ⟨p, ep, p1, p4⟩ : ∃ p : Nat, 1 + x2 = (p : Int) ∧ 1 ≤ p ∧ p ≤ 4 := ⟨(1 + x2).toNat, by omega, by omega, by omega⟩
    obtain ⟨many, rfl⟩ : ∃ n : Nat, x3 = (n : Int) := ⟨x3.toNat, by omega⟩
    have hm : many ≤ 8 := by omega
    have z : Sz r p := ⟨r1, r3, p1, p4⟩
    have ek := pk r p r1 r3 p1 p4
    have k0 : okd 60 (bk r p (tsD [])) = true := bk_okd r p 57 []
    have k1 : okd 60 (bk r p (tsD [s28])) = true := bk_okd r p 57 [s28]
    have q0 : deq (bk r p (tsD [])) (bk r p (tsD [])) = true := deq_refl _ 60 k0
    have q1 : deq (bk r p (tsD [s28])) (bk r p (tsD [s28])) = true := deq_refl _ 60 k1
    have q2 : deq (bk r p (tsD [s28])) (bk r p (tsD [])) = false := deq_ne1
    have ln := fun l : List (List FW.Tel) => fun n : D => pl n r p l
    have ef := pf r p z
    have b0 : canO R_bk (bk r p (tsD [])) (pastD r p []) [] = .ok (.int 0) (bk r p (tsD [])) (pastD r p []) := can_one c_bk (R_bk.mk [] [] (by decide))
    have eb : ∀ b : Str, b = "index" ∨ b = "telling" ∨ b = "none" → canO R_en (bk r p (tsD [])) (pastD r p []) [.int (many : Int), .str b] = .ok (.str b) (bk r p (tsD [])) (pastD r p []) := fun b hb => can_one c_en (R_en.bad z hm b hb)
    have eg : canO R_en (bk r p (tsD [])) (pastD r p []) [.int (many : Int), .str ""] = .ok (tsD [s28]) (bk r p (tsD [s28])) (pastD r p (pN many ++ [[]])) := can_one c_en (R_en.good z hm)
    have ea : canO R_en (bk r p (tsD [s28])) (pastD r p (pN many ++ [[]])) [.int 2, .str "index"] = .ok (.str "index") (bk r p (tsD [s28])) (pastD r p (pN many ++ [[]])) := can_one c_en (R_en.again z _ (by simp [pN_len]; omega))
    have eB : canO R_bk (bk r p (tsD [s28])) (pastD r p (pN many ++ [[]])) [] = .ok (.int ((2 * many + 2 : Nat) : Int)) (bk r p (tsD [])) (pastD r p []) := by
      have := can_one c_bk (R_bk.mk (r := r) (p := p) [s28] (pN many ++ [[]]) (by simp [pN_len]; omega))
      rw [this]
      have h1 : (pN many ++ [[]]).length = 2 * many + 2 := by simp [pN_len]
      have h2 : ((pN many ++ [[]] ++ [[s28]]).headD []) = [] := by
        have := turn_head many [[], [s28]]
        simpa [pN] using this
      rw [h1, h2]
    have nidx : ∀ b : Str, b = "index" ∨ b = "telling" ∨ b = "none" → opNe (.str b) (.str b) = some (.bl false) := fun b hb => by
      have hk : okd 60 (.str b) = true := by rcases hb with rfl | rfl | rfl <;> decide +kernel
      rw [ne_okd hk hk]
      simp [deq]
    have n0 : opNe (.int 0) (.int 0) = some (.bl false) := by rw [ne_okd (by rfl) (by rfl)]; rfl
    simp [st, ed, asgO, e0, e1, e2, e3, er, ep, newO, ek]
    generalize hg : forL _ _ _ _ = q3
    let st2 : Option Sl → S := fun o => ⟨[some (Sl.val (D.scr ns)), some (Sl.val (D.int i)), some (Sl.own v3), some (Sl.val (.int (r : Int))), some (Sl.val (.int (p : Int))), some (Sl.val (.int (many : Int))), some (Sl.obj (bk r p (tsD [])) (pastD r p [])), some (Sl.obj (bk r p (tsD [])) (pastD r p [])), o, a9], none⟩
    have key2 : ∃ o, q3 = .next (st2 o) := by
      rw [← hg]; clear hg
      refine forL_stT st2 [.str "index", .str "telling", .str "none"] a8 ?_
      rintro j d o hd
      refine ⟨_, rfl, fun I hI => ?_⟩
      obtain ⟨b, rfl, hb⟩ : ∃ b : Str, d = .str b ∧ (b = "index" ∨ b = "telling" ∨ b = "none") := by
        rcases j with _ | _ | _ | j
        · exact ⟨"index", by simpa using hd.symm, .inl rfl⟩
        · exact ⟨"telling", by simpa using hd.symm, .inr (.inl rfl)⟩
        · exact ⟨"none", by simpa using hd.symm, .inr (.inr rfl)⟩
        · simp at hd
      have eb' := eb b hb
      have nb := nidx b hb
      simp [st2, callO, eb', nb, lenO, ln, n0, b0, cmp2, pe _ _ _ _ k0 k0, q0]
      exact hI (some (Sl.val (.str b)))
    obtain ⟨o, rfl⟩ := key2
    have d0 : D.tup [.tup [.str "span", .int 0, .int 0, .int 1, .int 2, .int 8]] = tsD [s28] := rfl
    have nd : opNe (tsD [s28]) (tsD [s28]) = some (.bl false) := by rw [ne_okd (tsD_okd [s28] 58) (tsD_okd [s28] 58), deq_refl _ 60 (tsD_okd [s28] 58)]; rfl
    have ln2 : ∀ n : D, m5 n (pastD r p (pN many ++ [[]])) [] = .ok (.int (2 * (many : Int) + 2)) n (pastD r p (pN many ++ [[]])) := fun n => by
      rw [pl n r p (pN many ++ [[]])]
      have h1 : (pN many ++ [[]]).length = 2 * many + 2 := by simp [pN_len]
      rw [h1]
      simp
    have eB' : canO R_bk (bk r p (tsD [s28])) (pastD r p (pN many ++ [[]])) [] = .ok (.int (2 * (many : Int) + 2)) (bk r p (tsD [])) (pastD r p []) := by
      rw [eB]
      simp
    have mm : opMul (.int 2) (.int (many : Int)) = some (.int (2 * (many : Int))) := mulI (by decide) (by omega)
    have nn : opNe (.int (2 * (many : Int) + 2)) (.int (2 * (many : Int) + 2)) = some (.bl false) := by rw [ne_okd (by rfl) (by rfl)]; simp [deq]
    have lb1 : (0 : Int) ≤ 2 * (many : Int) + 2 := by omega
    have lb2 : 2 * (many : Int) + 2 < 9223372036854775808 := by omega
    have i2 : ∀ l : List FW.Tel, opIx (bk r p (tsD l)) (.int 2) = some (tsD l) := fun _ => rfl
    have nx : opNe (.str "index") (.str "index") = some (.bl false) := nidx "index" (.inl rfl)
    have hin := inR_of z (ts := [] ++ [s28]) (by simp) (by simp)
    have ia : m6 (bk r p (tsD [])) (pastD r p []) [tsD [s28]] = .self (bk r p (tsD [s28])) (pastD r p ([] ++ [[]])) := pi.one r p [] [] 0 0 1 2 8 hin.1 (by decide) (by decide) hin.2 (t_28 z)
    have bb : D.tup [.int (r : Int), .int (p : Int), tsD [s28]] = bk r p (tsD [s28]) := rfl
    have nb : opNe (bk r p (tsD [s28])) (bk r p (tsD [s28])) = some (.bl false) := by rw [ne_okd k1 k1, q1]; rfl
    simp [st2, d0, nd, call2, ef, callO, eg, lenO, ln2, mm, nn, lb1, lb2, cmp2, pe _ _ _ _ k1 k0, q2, ea, nx, fldO, i2, iaddO, ia, pe _ _ _ _ k1 k1, q1, bb, nb, eB', neNew, newO, ek, pe _ _ _ _ k0 k0, q0]
    exact hI (some (Sl.val (D.int i)), some (Sl.own v3), some (Sl.val (.int (r : Int))), some (Sl.val (.int (p : Int))), some (Sl.val (.int (many : Int))), some (Sl.obj (bk r p (tsD [])) (pastD r p [])), some (Sl.obj (bk r p (tsD [s28])) (pastD r p [[]])), o, some (Sl.val (tsD [s28]))) trivial
  obtain ⟨a, rfl, -⟩ := key
  simp [st]
end
end Z

namespace Z
open PySem PySem.Spec PyProof.Rows L2 DL
section
variable {P : Program} {w : World} {K : PySem.W.Frag} {mg : Str → Option Value} {base : Heap}
/-! ## what stands -/
structure Defs (K : PySem.W.Frag) (mg : Str → Option Value) : Prop where
  d_is_int : There K mg "is_int" s_is_int p_is_int
  d_tells : There K mg "tells" s_tells p_tells
  d_point : There K mg "point" s_point p_point
  d_plain : There K mg "plain" s_plain p_plain
  d_span_bounds : There K mg "span_bounds" s_span_bounds p_span_bounds
  d_gap_bounds : There K mg "gap_bounds" s_gap_bounds p_gap_bounds
  d_told_bounds : There K mg "told_bounds" s_told_bounds p_told_bounds
  d_holder_rows : There K mg "holder_rows" s_holder_rows p_holder_rows
  d_bounds_of : There K mg "bounds_of" s_bounds_of p_bounds_of
  d_closed : There K mg "closed" s_closed p_closed
  d_tables_of : There K mg "tables_of" s_tables_of p_tables_of
  d_earliest : There K mg "earliest" s_earliest p_earliest
  d_first_truth : There K mg "first_truth" s_first_truth p_first_truth
  d_against : There K mg "against" s_against p_against
  d_breaking : There K mg "breaking" s_breaking p_breaking
  d_needless_of : There K mg "needless_of" s_needless_of p_needless_of
  d_law_drop : There K mg "_law_drop" s__law_drop p__law_drop
  d_law_vial_of : There K mg "_law_vial_of" s__law_vial_of p__law_vial_of
  d_law_do : There K mg "_law_do" s__law_do p__law_do
  d_law_failing : There K mg "_law_failing" s__law_failing p__law_failing
  d_law_failed_right : There K mg "_law_failed_right" s__law_failed_right p__law_failed_right
structure Desks (K : PySem.W.Frag) (mg : Str → Option Value) : Prop where
  oc : OC K
  ic : C8.InsC K objC
  g : mg "Desk" = some (.ref objC)
  most : ∃ u, Con K objC "MOST" (.int 8) u
  m_after : MThere K "after" "Desk.after" s_Desk_after p_Desk_after
  m_forget : MThere K "forget" "Desk.forget" s_Desk_forget p_Desk_forget
  m_undo : MThere K "undo" "Desk.undo" s_Desk_undo p_Desk_undo
  m_attempt : MThere K "attempt" "Desk.attempt" s_Desk_attempt p_Desk_attempt
  m_len : MThere K "__len__" "Desk.__len__" s_Desk___len__ p_Desk___len__
  tell : ∃ f o1 od an osl kV doc pm cdv ct, SThere K "tell" "Desk.tell" s_Desk_tell "self" "items" f o1 od an osl kV doc pm cdv ct
  iadd : ∃ f fd, Fun K "__iadd__" "Desk.__iadd__" s_Desk___iadd__ f fd ∧ IaddO K f ∧ Binds K fd p_Desk___iadd__ []
  eq : ∃ f fd, Fun K "__eq__" "Desk.__eq__" s_Desk___eq__ f fd ∧ CmpO K f ∧ Binds K fd p_Desk___eq__ []
  init : ∃ f fd, Fun K "__init__" "Desk.__init__" s_Desk___init__ f fd ∧ Mk K objC f ∧ Binds K fd p_Desk___init__ []
  book : ∃ q g fd, Fun K "book" "Desk.book" s_Desk_book g fd ∧ PropOf K objC "book" q g ∧ Binds K fd p_Desk_book []
  key : mg "KeyError" = none
  kex : PySem.W.exmOne K (.type "KeyError") (.type "KeyError") = some true
theorem mthere_of {x q : Str} {st : Stmt} {ps : List Str} {f : Addr} {oc : Value} {od an : Option Addr} {osl : Array (Option Value)} {kV doc pm cdv ct : Value} (a : PySem.W.findIn K (.ref objC) x = some (some (.ref f)))
    (l : K.lookup f = some ⟨oc, od, .func (PySem.W.fnOf x q (defArgs st) (defBody st) (defScope st) .none kV doc pm an cdv ct), osl⟩) (c : PySem.W.codeIn K cdv q = true) (k : PySem.W.keepIn K (.ref f) = true) (i : PySem.W.isFn K (.ref f) = true)
    (hb : ∀ (kV doc pm : Value) (an : Option Addr) (cdv ct : Value) (us : List Value), us.length = ps.length → bindArgs (PySem.W.fnOf x q (defArgs st) (defBody st) (defScope st) .none kV doc pm an cdv ct) ⟨us, []⟩ = pure (ps.zip us)) : MThere K x q st ps :=
  ⟨f, _, fun_mk l c k, ⟨a, i, k⟩, .all (hb kV doc pm an cdv ct)⟩
theorem fthere_of {x q : Str} {st : Stmt} {ps : List Str} {f : Addr} {oc : Value} {od an : Option Addr} {osl : Array (Option Value)} {kV doc pm cdv ct : Value} {C : Prop}
    (l : K.lookup f = some ⟨oc, od, .func (PySem.W.fnOf x q (defArgs st) (defBody st) (defScope st) .none kV doc pm an cdv ct), osl⟩) (c : PySem.W.codeIn K cdv q = true) (k : PySem.W.keepIn K (.ref f) = true) (C1 : C)
    (hb : ∀ (kV doc pm : Value) (an : Option Addr) (cdv ct : Value) (us : List Value), us.length = ps.length → bindArgs (PySem.W.fnOf x q (defArgs st) (defBody st) (defScope st) .none kV doc pm an cdv ct) ⟨us, []⟩ = pure (ps.zip us)) : ∃ fd, Fun K x q st f fd ∧ C ∧ Binds K fd ps [] :=
  ⟨_, fun_mk l c k, C1, .all (hb kV doc pm an cdv ct)⟩
theorem prop_of {C p g : Addr} {f : Str} {l rest : List Value} (q1 : PySem.W.findIn K (.ref C) f = some (some (.ref p))) (q2 : PySem.W.specialIn K (.ref p) "__get__" = some (some (.builtin "property.__get__"))) (q3 : PySem.W.takesIn K (.ref p) = some true)
    (q4 : PySem.W.recIn K p "property" = some l) (q5 : l = .ref g :: rest) : PropOf K C f p g := ⟨q1, q2, q3, rest, by rw [q4, q5]⟩
structure Prom (P : Program) (w : World) (K : PySem.W.Frag) (mg : Str → Option Value) (base : Heap) : Prop where
  tell : ∃ m, HasOR P w K mg base 9 "tell" m ∧ P_tell m
  forget : ∃ m, HasO P w K mg base 2 "forget" ["self", "index"] m ∧ P_forget m
  undo : ∃ m, HasO P w K mg base 1 "undo" ["self"] m ∧ P_undo m
  len : ∃ m, HasO P w K mg base 1 "__len__" ["self"] m ∧ P_len m
  iadd : ∃ m, HasIa P w K mg base 7 ["self", "tellings"] m ∧ P_iadd m
  eq : ∃ m, Has2 P w K mg base 1 ["self", "other"] m ∧ ∀ n p n' p', okd 60 n = true → okd 60 n' = true → m n p n' p' = .ok (.bl (deq n n')) n p n' p'
  book : HasP P w K mg base 1 "book" obf1
  make : ∃ m, HasMk P w K mg base 2 ["self", "runs", "pieces"] m ∧ P_mk m
  drop : ∃ m, Has P w K mg base 1 "_law_drop" p__law_drop m ∧ P_drop m
  vial : ∃ m, Has P w K mg base 1 "_law_vial_of" p__law_vial_of m ∧ P_vial m
theorem ok_prom (base : Heap) (D : Desks K mg) (T : Defs K mg) (B : Bl mg) (XB : Xl K mg) : Prom P w K mg base := by
  have h_is_int := ok_is_int (P := P) (w := w) (base := base) B T.d_is_int
  have h_tells := ok_tells B h_is_int T.d_tells
  have h_point := ok_point (P := P) (w := w) (base := base) B T.d_point
  have h_plain := ok_plain B h_point T.d_plain
  have h_span_bounds := ok_span_bounds B h_point T.d_span_bounds
  have h_gap_bounds := ok_gap_bounds B h_point T.d_gap_bounds
  have h_told_bounds := ok_told_bounds B h_span_bounds h_gap_bounds T.d_told_bounds
  have h_holder_rows := ok_holder_rows (P := P) (w := w) (base := base) B T.d_holder_rows
  have h_bounds_of := ok_bounds_of B h_plain h_told_bounds T.d_bounds_of
  have h_closed := ok_closed (P := P) (w := w) (base := base) B T.d_closed
  have h_tables_of := ok_tables_of B h_holder_rows h_bounds_of h_closed T.d_tables_of
  have h_earliest := ok_earliest B h_point T.d_earliest
  have h_first_truth := ok_first_truth B h_tables_of h_earliest T.d_first_truth
  have h_against := ok_against B h_span_bounds h_gap_bounds T.d_against
  have h_breaking := ok_breaking B h_against h_first_truth T.d_breaking
  have h_needless_of := ok_needless_of B h_breaking T.d_needless_of
  obtain ⟨u, hM⟩ := D.most
  obtain ⟨_, _, _, _, _, _, _, _, _, _, hT⟩ := D.tell
  obtain ⟨_, _, fI, cI, bI⟩ := D.iadd
  obtain ⟨_, _, fE, cE, bE⟩ := D.eq
  obtain ⟨_, _, fN, cN, bN⟩ := D.init
  obtain ⟨_, _, _, fB, cB, bB⟩ := D.book
  have h_after := ok_after D.oc B XB hM h_tables_of D.m_after
  exact ⟨ok_tell D.oc B XB h_tells h_after h_needless_of hT, ok_forget D.oc B XB h_is_int D.m_forget, ok_undo D.oc B XB D.m_undo, ok_len D.oc B D.m_len, ok_iadd D.oc B XB h_tells h_after fI cI bI,
    ok_eq D.oc B D.ic D.g fE cE bE, ok_book D.oc fB cB bB, ok_mk D.oc B XB h_is_int fN cN bN, ok__law_drop B T.d_law_drop, ok__law_vial_of B T.d_law_vial_of⟩
theorem ok_all (D : Desks K mg) (T : Defs K mg) (B : Bl mg) (XB : Xl K mg) (c : Cl14 mg) (hw : ∀ n w C, wdK n = some w → ECl mg n C → wdOf K C c.l = some w) (DWd : DefAt K mg "_law_word" s__law_word p__law_word)
    (DNN : DefAt K mg "_law_nested" s__law_nested p__law_nested) {cN PN : Addr} (hcdN : DNN.cdv = .ref cN) (TBN : LamX.TabB base mg cN PN) (hTN : (PN, qN) ∈ lamT) (huN : ∀ p ∈ lamT, p.1 = PN → p.2 = qN)
    (DEE : DefAt K mg "_law_ended" s__law_ended p__law_ended) {cE PE : Addr} (hcdE : DEE.cdv = .ref cE) (TBE : LamX.TabB base mg cE PE) (hTE : (PE, qE) ∈ lamT) (huE : ∀ p ∈ lamT, p.1 = PE → p.2 = qE)
    (DBB : DefAt K mg "_law_back" s__law_back p__law_back) {cB PB : Addr} (hcdB : DBB.cdv = .ref cB) (TBB : LamX.TabB base mg cB PB) (hTB : (PB, qB) ∈ lamT) (huB : ∀ p ∈ lamT, p.1 = PB → p.2 = qB)
    {fl : Addr} {fdl : FuncData} (S0 : Stand K mg "law" s_law p_law fl fdl) : ∃ m, FnD P w K mg base 19 fl fdl p_law m ∧ ∀ ns : List Int, ns.length ≤ 63 → m [.scr ns] none = .ok (.bl true) none := by
  have pr : ∀ b2, Prom P w K mg b2 := fun b2 => ok_prom b2 D T B XB
  have h_do : ∀ b2, HasG P w K mg b2 10 "_law_do" ["_law_desk", "_law_many", "_law_bad"] (canO R_do) := fun b2 => (ok__law_do D.oc B (pr b2).tell (pr b2).forget (pr b2).iadd (pr b2).len (pr b2).book T.d_law_do).1
  have c_do := (ok__law_do D.oc B (pr base).tell (pr base).forget (pr base).iadd (pr base).len (pr base).book T.d_law_do).2
  have h_ne : ∀ b2 : Heap, (∀ a o, base.get? a = some o → b2.get? a = some o) → HasG P w K mg b2 13 "_law_nested" ["_law_desk", "_law_many", "_law_bad"] (canO R_ne) := fun b2 sub => ok__law_nested D.oc B D.m_attempt c_do h_do (pr b2).tell (pr b2).book DNN hcdN (tabB_up TBN sub) hTN huN
  have h_en := ok__law_ended D.oc B c DWd hw D.m_attempt c_do h_do h_ne DEE hcdE TBE hTE huE
  have h_un : ∀ b2, HasO P w K mg b2 1 "undo" ["self"] (canO R_un) := fun b2 => by
    obtain ⟨m, ⟨f, fd, F, M, b⟩, pu⟩ := (pr b2).undo
    exact ⟨f, fd, fnO_can F pu.can, M, b⟩
  have c_un : ∃ m : FMo, ∀ n p ds r, R_un n p ds r → m n p ds = r := by
    obtain ⟨m, _, pu⟩ := (pr base).undo
    exact ⟨m, pu.can⟩
  have h_bk := ok__law_back D.oc B c DWd hw h_un c_un DBB hcdB TBB hTB huB
  have h_fl := ok__law_failing D.oc B D.key (pr base).tell (pr base).len T.d_law_failing
  obtain ⟨_, _, fE, cE, bE⟩ := D.eq
  obtain ⟨_, _, _, fB, cB, bB⟩ := D.book
  have hot : HotD P w K mg base := ok_hot D.oc B D.ic D.g D.m_len fE cE bE fB cB bB
  have h_fr := ok__law_failed_right D.oc B D.key D.kex hot D.m_attempt h_fl T.d_law_failed_right
  exact ok_law D.oc B D.g (pr base).vial (pr base).drop (pr base).make (pr base).eq (pr base).len (pr base).book (pr base).iadd h_en h_bk h_fr S0
end
end Z

namespace Z
open PySem PySem.Spec PyProof.Rows L2 DL
theorem hw_of {K : PySem.W.Frag} {mg : Str → Option Value} (c14 : Cl14 mg)
    (e0 : PySem.W.exmOne K (.ref c14.c_InvalidTelling) (.ref c14.c_InvalidBook) = some false)
    (e1 : PySem.W.exmOne K (.ref c14.c_InvalidTelling) (.ref c14.c_InvalidRun) = some false)
    (e2 : PySem.W.exmOne K (.ref c14.c_InvalidTelling) (.ref c14.c_InvalidMark) = some false)
    (e3 : PySem.W.exmOne K (.ref c14.c_InvalidTelling) (.ref c14.c_InvalidTime) = some false)
    (e4 : PySem.W.exmOne K (.ref c14.c_InvalidTelling) (.ref c14.c_InvalidTelling) = some true)
    (e5 : PySem.W.exmOne K (.ref c14.c_InvalidIndex) (.ref c14.c_InvalidBook) = some false)
    (e6 : PySem.W.exmOne K (.ref c14.c_InvalidIndex) (.ref c14.c_InvalidRun) = some false)
    (e7 : PySem.W.exmOne K (.ref c14.c_InvalidIndex) (.ref c14.c_InvalidMark) = some false)
    (e8 : PySem.W.exmOne K (.ref c14.c_InvalidIndex) (.ref c14.c_InvalidTime) = some false)
    (e9 : PySem.W.exmOne K (.ref c14.c_InvalidIndex) (.ref c14.c_InvalidTelling) = some false)
    (e10 : PySem.W.exmOne K (.ref c14.c_InvalidIndex) (.ref c14.c_InvalidTruth) = some false)
    (e11 : PySem.W.exmOne K (.ref c14.c_InvalidIndex) (.ref c14.c_InvalidPaper) = some false)
    (e12 : PySem.W.exmOne K (.ref c14.c_InvalidIndex) (.ref c14.c_InvalidIndex) = some true)
    (e13 : PySem.W.exmOne K (.ref c14.c_NoTruth) (.ref c14.c_InvalidBook) = some false)
    (e14 : PySem.W.exmOne K (.ref c14.c_NoTruth) (.ref c14.c_InvalidRun) = some false)
    (e15 : PySem.W.exmOne K (.ref c14.c_NoTruth) (.ref c14.c_InvalidMark) = some false)
    (e16 : PySem.W.exmOne K (.ref c14.c_NoTruth) (.ref c14.c_InvalidTime) = some false)
    (e17 : PySem.W.exmOne K (.ref c14.c_NoTruth) (.ref c14.c_InvalidTelling) = some false)
    (e18 : PySem.W.exmOne K (.ref c14.c_NoTruth) (.ref c14.c_InvalidTruth) = some false)
    (e19 : PySem.W.exmOne K (.ref c14.c_NoTruth) (.ref c14.c_InvalidPaper) = some false)
    (e20 : PySem.W.exmOne K (.ref c14.c_NoTruth) (.ref c14.c_InvalidIndex) = some false)
    (e21 : PySem.W.exmOne K (.ref c14.c_NoTruth) (.ref c14.c_InvalidText) = some false)
    (e22 : PySem.W.exmOne K (.ref c14.c_NoTruth) (.ref c14.c_NoTruth) = some true)
    (e23 : PySem.W.exmOne K (.ref c14.c_NothingToUndo) (.ref c14.c_InvalidBook) = some false)
    (e24 : PySem.W.exmOne K (.ref c14.c_NothingToUndo) (.ref c14.c_InvalidRun) = some false)
    (e25 : PySem.W.exmOne K (.ref c14.c_NothingToUndo) (.ref c14.c_InvalidMark) = some false)
    (e26 : PySem.W.exmOne K (.ref c14.c_NothingToUndo) (.ref c14.c_InvalidTime) = some false)
    (e27 : PySem.W.exmOne K (.ref c14.c_NothingToUndo) (.ref c14.c_InvalidTelling) = some false)
    (e28 : PySem.W.exmOne K (.ref c14.c_NothingToUndo) (.ref c14.c_InvalidTruth) = some false)
    (e29 : PySem.W.exmOne K (.ref c14.c_NothingToUndo) (.ref c14.c_InvalidPaper) = some false)
    (e30 : PySem.W.exmOne K (.ref c14.c_NothingToUndo) (.ref c14.c_InvalidIndex) = some false)
    (e31 : PySem.W.exmOne K (.ref c14.c_NothingToUndo) (.ref c14.c_InvalidText) = some false)
    (e32 : PySem.W.exmOne K (.ref c14.c_NothingToUndo) (.ref c14.c_NoTruth) = some false)
    (e33 : PySem.W.exmOne K (.ref c14.c_NothingToUndo) (.ref c14.c_Unlike) = some false)
    (e34 : PySem.W.exmOne K (.ref c14.c_NothingToUndo) (.ref c14.c_NothingToUndo) = some true)
    : ∀ n w C, wdK n = some w → ECl mg n C → wdOf K C c14.l = some w := by
  intro n w C h m
  unfold wdK at h
  by_cases h_InvalidTelling : n = "InvalidTelling"
  · subst h_InvalidTelling
    have : C = .ref c14.c_InvalidTelling := by
      rcases m with m | ⟨z, _⟩
      · have := c14.g_InvalidTelling.symm.trans m; cases this; rfl
      · exact absurd z (by decide)
    subst this
    first
      | (simp at h; subst h; unfold Cl14.l; simp only [wdOf, e0, e1, e2, e3, e4])
      | (rw [if_pos rfl] at h; cases h; unfold Cl14.l; simp only [wdOf, e0, e1, e2, e3, e4])
  by_cases h_InvalidIndex : n = "InvalidIndex"
  · subst h_InvalidIndex
    have : C = .ref c14.c_InvalidIndex := by
      rcases m with m | ⟨z, _⟩
      · have := c14.g_InvalidIndex.symm.trans m; cases this; rfl
      · exact absurd z (by decide)
    subst this
    first
      | (simp at h; subst h; unfold Cl14.l; simp only [wdOf, e5, e6, e7, e8, e9, e10, e11, e12])
      | (rw [if_pos rfl] at h; cases h; unfold Cl14.l; simp only [wdOf, e5, e6, e7, e8, e9, e10, e11, e12])
  by_cases h_NoTruth : n = "NoTruth"
  · subst h_NoTruth
    have : C = .ref c14.c_NoTruth := by
      rcases m with m | ⟨z, _⟩
      · have := c14.g_NoTruth.symm.trans m; cases this; rfl
      · exact absurd z (by decide)
    subst this
    first
      | (simp at h; subst h; unfold Cl14.l; simp only [wdOf, e13, e14, e15, e16, e17, e18, e19, e20, e21, e22])
      | (rw [if_pos rfl] at h; cases h; unfold Cl14.l; simp only [wdOf, e13, e14, e15, e16, e17, e18, e19, e20, e21, e22])
  by_cases h_NothingToUndo : n = "NothingToUndo"
  · subst h_NothingToUndo
    have : C = .ref c14.c_NothingToUndo := by
      rcases m with m | ⟨z, _⟩
      · have := c14.g_NothingToUndo.symm.trans m; cases this; rfl
      · exact absurd z (by decide)
    subst this
    first
      | (simp at h; subst h; unfold Cl14.l; simp only [wdOf, e23, e24, e25, e26, e27, e28, e29, e30, e31, e32, e33, e34])
      | (rw [if_pos rfl] at h; cases h; unfold Cl14.l; simp only [wdOf, e23, e24, e25, e26, e27, e28, e29, e30, e31, e32, e33, e34])
  simp_all
theorem all_mk {l : PySem.W.OpenLaw} {w : World} {K : PySem.W.Frag} {h : Heap} {mg : Str → Option Value} {fa : Addr} (X : K.In h) (G : h.Ns mainGlobals mg) (hfa : mg "law" = some (.ref fa)) (B : Bl mg)
    {C_InvalidBook : Addr} (X_InvalidBook : ExC K mg "InvalidBook" C_InvalidBook)
    {C_InvalidTelling : Addr} (X_InvalidTelling : ExC K mg "InvalidTelling" C_InvalidTelling)
    {C_InvalidIndex : Addr} (X_InvalidIndex : ExC K mg "InvalidIndex" C_InvalidIndex)
    {C_NoTruth : Addr} (X_NoTruth : ExC K mg "NoTruth" C_NoTruth)
    {C_NothingToUndo : Addr} (X_NothingToUndo : ExC K mg "NothingToUndo" C_NothingToUndo)
    {c_InvalidBook : Addr} (g_InvalidBook : mg "InvalidBook" = some (.ref c_InvalidBook))
    {c_InvalidRun : Addr} (g_InvalidRun : mg "InvalidRun" = some (.ref c_InvalidRun))
    {c_InvalidMark : Addr} (g_InvalidMark : mg "InvalidMark" = some (.ref c_InvalidMark))
    {c_InvalidTime : Addr} (g_InvalidTime : mg "InvalidTime" = some (.ref c_InvalidTime))
    {c_InvalidTelling : Addr} (g_InvalidTelling : mg "InvalidTelling" = some (.ref c_InvalidTelling))
    {c_InvalidTruth : Addr} (g_InvalidTruth : mg "InvalidTruth" = some (.ref c_InvalidTruth))
    {c_InvalidPaper : Addr} (g_InvalidPaper : mg "InvalidPaper" = some (.ref c_InvalidPaper))
    {c_InvalidIndex : Addr} (g_InvalidIndex : mg "InvalidIndex" = some (.ref c_InvalidIndex))
    {c_InvalidText : Addr} (g_InvalidText : mg "InvalidText" = some (.ref c_InvalidText))
    {c_NoTruth : Addr} (g_NoTruth : mg "NoTruth" = some (.ref c_NoTruth))
    {c_Unlike : Addr} (g_Unlike : mg "Unlike" = some (.ref c_Unlike))
    {c_NothingToUndo : Addr} (g_NothingToUndo : mg "NothingToUndo" = some (.ref c_NothingToUndo))
    {c_TooMany : Addr} (g_TooMany : mg "TooMany" = some (.ref c_TooMany))
    {c_SplitError : Addr} (g_SplitError : mg "SplitError" = some (.ref c_SplitError))
    (e0 : PySem.W.exmOne K (.ref c_InvalidTelling) (.ref c_InvalidBook) = some false)
    (e1 : PySem.W.exmOne K (.ref c_InvalidTelling) (.ref c_InvalidRun) = some false)
    (e2 : PySem.W.exmOne K (.ref c_InvalidTelling) (.ref c_InvalidMark) = some false)
    (e3 : PySem.W.exmOne K (.ref c_InvalidTelling) (.ref c_InvalidTime) = some false)
    (e4 : PySem.W.exmOne K (.ref c_InvalidTelling) (.ref c_InvalidTelling) = some true)
    (e5 : PySem.W.exmOne K (.ref c_InvalidIndex) (.ref c_InvalidBook) = some false)
    (e6 : PySem.W.exmOne K (.ref c_InvalidIndex) (.ref c_InvalidRun) = some false)
    (e7 : PySem.W.exmOne K (.ref c_InvalidIndex) (.ref c_InvalidMark) = some false)
    (e8 : PySem.W.exmOne K (.ref c_InvalidIndex) (.ref c_InvalidTime) = some false)
    (e9 : PySem.W.exmOne K (.ref c_InvalidIndex) (.ref c_InvalidTelling) = some false)
    (e10 : PySem.W.exmOne K (.ref c_InvalidIndex) (.ref c_InvalidTruth) = some false)
    (e11 : PySem.W.exmOne K (.ref c_InvalidIndex) (.ref c_InvalidPaper) = some false)
    (e12 : PySem.W.exmOne K (.ref c_InvalidIndex) (.ref c_InvalidIndex) = some true)
    (e13 : PySem.W.exmOne K (.ref c_NoTruth) (.ref c_InvalidBook) = some false)
    (e14 : PySem.W.exmOne K (.ref c_NoTruth) (.ref c_InvalidRun) = some false)
    (e15 : PySem.W.exmOne K (.ref c_NoTruth) (.ref c_InvalidMark) = some false)
    (e16 : PySem.W.exmOne K (.ref c_NoTruth) (.ref c_InvalidTime) = some false)
    (e17 : PySem.W.exmOne K (.ref c_NoTruth) (.ref c_InvalidTelling) = some false)
    (e18 : PySem.W.exmOne K (.ref c_NoTruth) (.ref c_InvalidTruth) = some false)
    (e19 : PySem.W.exmOne K (.ref c_NoTruth) (.ref c_InvalidPaper) = some false)
    (e20 : PySem.W.exmOne K (.ref c_NoTruth) (.ref c_InvalidIndex) = some false)
    (e21 : PySem.W.exmOne K (.ref c_NoTruth) (.ref c_InvalidText) = some false)
    (e22 : PySem.W.exmOne K (.ref c_NoTruth) (.ref c_NoTruth) = some true)
    (e23 : PySem.W.exmOne K (.ref c_NothingToUndo) (.ref c_InvalidBook) = some false)
    (e24 : PySem.W.exmOne K (.ref c_NothingToUndo) (.ref c_InvalidRun) = some false)
    (e25 : PySem.W.exmOne K (.ref c_NothingToUndo) (.ref c_InvalidMark) = some false)
    (e26 : PySem.W.exmOne K (.ref c_NothingToUndo) (.ref c_InvalidTime) = some false)
    (e27 : PySem.W.exmOne K (.ref c_NothingToUndo) (.ref c_InvalidTelling) = some false)
    (e28 : PySem.W.exmOne K (.ref c_NothingToUndo) (.ref c_InvalidTruth) = some false)
    (e29 : PySem.W.exmOne K (.ref c_NothingToUndo) (.ref c_InvalidPaper) = some false)
    (e30 : PySem.W.exmOne K (.ref c_NothingToUndo) (.ref c_InvalidIndex) = some false)
    (e31 : PySem.W.exmOne K (.ref c_NothingToUndo) (.ref c_InvalidText) = some false)
    (e32 : PySem.W.exmOne K (.ref c_NothingToUndo) (.ref c_NoTruth) = some false)
    (e33 : PySem.W.exmOne K (.ref c_NothingToUndo) (.ref c_Unlike) = some false)
    (e34 : PySem.W.exmOne K (.ref c_NothingToUndo) (.ref c_NothingToUndo) = some true)
    (T : Defs K mg) (D : Desks K mg)
    {f_law_nested cc_law_nested Pt_law_nested : Addr} {oc_law_nested kV_law_nested doc_law_nested pm_law_nested ct_law_nested : Value} {od_law_nested an_law_nested : Option Addr} {osl_law_nested : Array (Option Value)} (a_law_nested : PySem.W.nsIn K mainGlobals "_law_nested" = some (some (.ref f_law_nested)))
    (lk_law_nested : K.lookup f_law_nested = some ⟨oc_law_nested, od_law_nested, .func (PySem.W.fnOf "_law_nested" "_law_nested" (defArgs s__law_nested) (defBody s__law_nested) (defScope s__law_nested) .none kV_law_nested doc_law_nested pm_law_nested an_law_nested (.ref cc_law_nested) ct_law_nested), osl_law_nested⟩) (cd_law_nested : PySem.W.codeIn K (.ref cc_law_nested) "_law_nested" = true) (kp_law_nested : PySem.W.keepIn K (.ref f_law_nested) = true)
    {ec_law_nested : Value} {dc_law_nested : Option Addr} {vc_law_nested : Array Value} {sc_law_nested : Array (Option Value)} (lc_law_nested : K.lookup cc_law_nested = some ⟨ec_law_nested, dc_law_nested, .fields vc_law_nested, sc_law_nested⟩) (vp_law_nested : vc_law_nested[11]? = some (.ref Pt_law_nested)) (np_law_nested : K.lookup Pt_law_nested = none) (hh_law_nested : PySem.W.codeHdIn K cc_law_nested Pt_law_nested = true)
    (hT_law_nested : (Pt_law_nested, ("_law_nested.<locals>.<lambda>" : Str)) ∈ lamT) (hu_law_nested : ∀ p ∈ lamT, p.1 = Pt_law_nested → p.2 = "_law_nested.<locals>.<lambda>")
    {f_law_ended cc_law_ended Pt_law_ended : Addr} {oc_law_ended kV_law_ended doc_law_ended pm_law_ended ct_law_ended : Value} {od_law_ended an_law_ended : Option Addr} {osl_law_ended : Array (Option Value)} (a_law_ended : PySem.W.nsIn K mainGlobals "_law_ended" = some (some (.ref f_law_ended)))
    (lk_law_ended : K.lookup f_law_ended = some ⟨oc_law_ended, od_law_ended, .func (PySem.W.fnOf "_law_ended" "_law_ended" (defArgs s__law_ended) (defBody s__law_ended) (defScope s__law_ended) .none kV_law_ended doc_law_ended pm_law_ended an_law_ended (.ref cc_law_ended) ct_law_ended), osl_law_ended⟩) (cd_law_ended : PySem.W.codeIn K (.ref cc_law_ended) "_law_ended" = true) (kp_law_ended : PySem.W.keepIn K (.ref f_law_ended) = true)
    {ec_law_ended : Value} {dc_law_ended : Option Addr} {vc_law_ended : Array Value} {sc_law_ended : Array (Option Value)} (lc_law_ended : K.lookup cc_law_ended = some ⟨ec_law_ended, dc_law_ended, .fields vc_law_ended, sc_law_ended⟩) (vp_law_ended : vc_law_ended[11]? = some (.ref Pt_law_ended)) (np_law_ended : K.lookup Pt_law_ended = none) (hh_law_ended : PySem.W.codeHdIn K cc_law_ended Pt_law_ended = true)
    (hT_law_ended : (Pt_law_ended, ("_law_ended.<locals>.<lambda>" : Str)) ∈ lamT) (hu_law_ended : ∀ p ∈ lamT, p.1 = Pt_law_ended → p.2 = "_law_ended.<locals>.<lambda>")
    {f_law_back cc_law_back Pt_law_back : Addr} {oc_law_back kV_law_back doc_law_back pm_law_back ct_law_back : Value} {od_law_back an_law_back : Option Addr} {osl_law_back : Array (Option Value)} (a_law_back : PySem.W.nsIn K mainGlobals "_law_back" = some (some (.ref f_law_back)))
    (lk_law_back : K.lookup f_law_back = some ⟨oc_law_back, od_law_back, .func (PySem.W.fnOf "_law_back" "_law_back" (defArgs s__law_back) (defBody s__law_back) (defScope s__law_back) .none kV_law_back doc_law_back pm_law_back an_law_back (.ref cc_law_back) ct_law_back), osl_law_back⟩) (cd_law_back : PySem.W.codeIn K (.ref cc_law_back) "_law_back" = true) (kp_law_back : PySem.W.keepIn K (.ref f_law_back) = true)
    {ec_law_back : Value} {dc_law_back : Option Addr} {vc_law_back : Array Value} {sc_law_back : Array (Option Value)} (lc_law_back : K.lookup cc_law_back = some ⟨ec_law_back, dc_law_back, .fields vc_law_back, sc_law_back⟩) (vp_law_back : vc_law_back[11]? = some (.ref Pt_law_back)) (np_law_back : K.lookup Pt_law_back = none) (hh_law_back : PySem.W.codeHdIn K cc_law_back Pt_law_back = true)
    (hT_law_back : (Pt_law_back, ("_law_back.<locals>.<lambda>" : Str)) ∈ lamT) (hu_law_back : ∀ p ∈ lamT, p.1 = Pt_law_back → p.2 = "_law_back.<locals>.<lambda>")
    {f_law_word : Addr} {oc_law_word kV_law_word doc_law_word pm_law_word ct_law_word cdv_law_word : Value} {od_law_word an_law_word : Option Addr} {osl_law_word : Array (Option Value)} (a_law_word : PySem.W.nsIn K mainGlobals "_law_word" = some (some (.ref f_law_word)))
    (lk_law_word : K.lookup f_law_word = some ⟨oc_law_word, od_law_word, .func (PySem.W.fnOf "_law_word" "_law_word" (defArgs s__law_word) (defBody s__law_word) (defScope s__law_word) .none kV_law_word doc_law_word pm_law_word an_law_word cdv_law_word ct_law_word), osl_law_word⟩) (cd_law_word : PySem.W.codeIn K cdv_law_word "_law_word" = true) (kp_law_word : PySem.W.keepIn K (.ref f_law_word) = true)
    {f_law : Addr} {oc_law kV_law doc_law pm_law ct_law cdv_law : Value} {od_law an_law : Option Addr} {osl_law : Array (Option Value)} (a_law : PySem.W.nsIn K mainGlobals "law" = some (some (.ref f_law)))
    (lk_law : K.lookup f_law = some ⟨oc_law, od_law, .func (PySem.W.fnOf "law" "law" (defArgs s_law) (defBody s_law) (defScope s_law) .none kV_law doc_law pm_law an_law cdv_law ct_law), osl_law⟩) (cd_law : PySem.W.codeIn K cdv_law "law" = true) (kp_law : PySem.W.keepIn K (.ref f_law) = true)
    (hTall : ∀ p ∈ lamT, p.1 = Pt_law_nested ∨ p.1 = Pt_law_ended ∨ p.1 = Pt_law_back)
    (own : ∀ y ∈ [("_law_nested" : Str), ("_law_ended" : Str), ("_law_back" : Str)], ∀ fy, mg y = some (.ref fy) → LamX.OwnTab K fy h) :
    LamX.LawAtS l w K (L2.CX l.prog w) 19 63 "_law_script" mg fa h := by
  have e := hfa.symm.trans (PySem.W.mg_of X G a_law)
  cases e
  have emp_law_nested := own "_law_nested" (by simp) f_law_nested (PySem.W.mg_of X G a_law_nested) cc_law_nested Pt_law_nested _ _ _ _ _ _ lk_law_nested rfl rfl lc_law_nested vp_law_nested
  have emp_law_ended := own "_law_ended" (by simp) f_law_ended (PySem.W.mg_of X G a_law_ended) cc_law_ended Pt_law_ended _ _ _ _ _ _ lk_law_ended rfl rfl lc_law_ended vp_law_ended
  have emp_law_back := own "_law_back" (by simp) f_law_back (PySem.W.mg_of X G a_law_back) cc_law_back Pt_law_back _ _ _ _ _ _ lk_law_back rfl rfl lc_law_back vp_law_back
  refine ⟨(PySem.W.fnOf "law" "law" (defArgs s_law) (defBody s_law) (defScope s_law) .none kV_law doc_law pm_law an_law cdv_law ct_law), [(cc_law_nested, Pt_law_nested), (cc_law_ended, Pt_law_ended), (cc_law_back, Pt_law_back)], spLaw K, ?_, ?_, ?_, fun s v => .of_eq rfl, fun H a ns hl _ ht hs => ⟨a, ns, rfl, hs, hl, fun p hp => ?_, fun _ => rfl⟩, fun base Kb nsb TB => ?_⟩
  · intro p hp
    simp only [List.mem_cons, List.not_mem_nil, or_false] at hp
    rcases hp with rfl | rfl | rfl
    · exact emp_law_nested
    · exact emp_law_ended
    · exact emp_law_back
  · intro p hp
    simp only [List.mem_cons, List.not_mem_nil, or_false] at hp
    rcases hp with rfl | rfl | rfl
    · exact np_law_nested
    · exact np_law_ended
    · exact np_law_back
  · intro p hp
    simp only [List.mem_cons, List.not_mem_nil, or_false] at hp
    rcases hp with rfl | rfl | rfl
    · exact PySem.W.codeHd_of_K X hh_law_nested
    · exact PySem.W.codeHd_of_K X hh_law_ended
    · exact PySem.W.codeHd_of_K X hh_law_back
  · rcases hTall p hp with q | q | q
    · exact ⟨#[], by rw [q]; exact ht (cc_law_nested, Pt_law_nested) (by simp), trivial, fun pos cv hc => nomatch hc⟩
    · exact ⟨#[], by rw [q]; exact ht (cc_law_ended, Pt_law_ended) (by simp), trivial, fun pos cv hc => nomatch hc⟩
    · exact ⟨#[], by rw [q]; exact ht (cc_law_back, Pt_law_back) (by simp), trivial, fun pos cv hc => nomatch hc⟩
  · have hw := hw_of (K := K) (⟨c_InvalidBook, g_InvalidBook, c_InvalidRun, g_InvalidRun, c_InvalidMark, g_InvalidMark, c_InvalidTime, g_InvalidTime, c_InvalidTelling, g_InvalidTelling, c_InvalidTruth, g_InvalidTruth, c_InvalidPaper, g_InvalidPaper, c_InvalidIndex, g_InvalidIndex, c_InvalidText, g_InvalidText, c_NoTruth, g_NoTruth, c_Unlike, g_Unlike, c_NothingToUndo, g_NothingToUndo, c_TooMany, g_TooMany, c_SplitError, g_SplitError⟩ : Cl14 mg) e0 e1 e2 e3 e4 e5 e6 e7 e8 e9 e10 e11 e12 e13 e14 e15 e16 e17 e18 e19 e20 e21 e22 e23 e24 e25 e26 e27 e28 e29 e30 e31 e32 e33 e34
    have S_law_nested := stand_of (ps := p__law_nested) X G a_law_nested lk_law_nested cd_law_nested kp_law_nested fun _ _ _ _ _ _ us hl => match us, hl with | [_, _, _], _ => rfl
    have TB_law_nested := TB (cc_law_nested, Pt_law_nested) (by simp)
    have S_law_ended := stand_of (ps := p__law_ended) X G a_law_ended lk_law_ended cd_law_ended kp_law_ended fun _ _ _ _ _ _ us hl => match us, hl with | [_, _, _], _ => rfl
    have TB_law_ended := TB (cc_law_ended, Pt_law_ended) (by simp)
    have S_law_back := stand_of (ps := p__law_back) X G a_law_back lk_law_back cd_law_back kp_law_back fun _ _ _ _ _ _ us hl => match us, hl with | [_], _ => rfl
    have TB_law_back := TB (cc_law_back, Pt_law_back) (by simp)
    have S_law_word := stand_of (ps := p__law_word) X G a_law_word lk_law_word cd_law_word kp_law_word fun _ _ _ _ _ _ us hl => match us, hl with | [_], _ => rfl
    have S_law := stand_of (ps := p_law) X G a_law lk_law cd_law kp_law fun _ _ _ _ _ _ us hl => match us, hl with | [_], _ => rfl
    obtain ⟨m, F2, hm⟩ := ok_all (P := l.prog) (w := w) (base := base) D T B (⟨C_InvalidBook, X_InvalidBook, C_InvalidTelling, X_InvalidTelling, C_InvalidIndex, X_InvalidIndex, C_NoTruth, X_NoTruth, C_NothingToUndo, X_NothingToUndo⟩ : Xl K mg) (⟨c_InvalidBook, g_InvalidBook, c_InvalidRun, g_InvalidRun, c_InvalidMark, g_InvalidMark, c_InvalidTime, g_InvalidTime, c_InvalidTelling, g_InvalidTelling, c_InvalidTruth, g_InvalidTruth, c_InvalidPaper, g_InvalidPaper, c_InvalidIndex, g_InvalidIndex, c_InvalidText, g_InvalidText, c_NoTruth, g_NoTruth, c_Unlike, g_Unlike, c_NothingToUndo, g_NothingToUndo, c_TooMany, g_TooMany, c_SplitError, g_SplitError⟩ : Cl14 mg) hw (⟨f_law_word, oc_law_word, od_law_word, kV_law_word, doc_law_word, pm_law_word, an_law_word, cdv_law_word, ct_law_word, osl_law_word, PySem.W.mg_of X G a_law_word, kp_law_word, lk_law_word, cd_law_word, S_law_word.b⟩ : DefAt K mg "_law_word" s__law_word p__law_word) (⟨f_law_nested, oc_law_nested, od_law_nested, kV_law_nested, doc_law_nested, pm_law_nested, an_law_nested, .ref cc_law_nested, ct_law_nested, osl_law_nested, PySem.W.mg_of X G a_law_nested, kp_law_nested, lk_law_nested, cd_law_nested, S_law_nested.b⟩ : DefAt K mg "_law_nested" s__law_nested p__law_nested) rfl TB_law_nested hT_law_nested hu_law_nested (⟨f_law_ended, oc_law_ended, od_law_ended, kV_law_ended, doc_law_ended, pm_law_ended, an_law_ended, .ref cc_law_ended, ct_law_ended, osl_law_ended, PySem.W.mg_of X G a_law_ended, kp_law_ended, lk_law_ended, cd_law_ended, S_law_ended.b⟩ : DefAt K mg "_law_ended" s__law_ended p__law_ended) rfl TB_law_ended hT_law_ended hu_law_ended (⟨f_law_back, oc_law_back, od_law_back, kV_law_back, doc_law_back, pm_law_back, an_law_back, .ref cc_law_back, ct_law_back, osl_law_back, PySem.W.mg_of X G a_law_back, kp_law_back, lk_law_back, cd_law_back, S_law_back.b⟩ : DefAt K mg "_law_back" s__law_back p__law_back) rfl TB_law_back hT_law_back hu_law_back S_law
    exact law_has rfl F2 hm
end Z
open PySem PySem.W PyProof.Rows
set_option maxHeartbeats 0 in
theorem PySem.Challenge.cw_runsplits_k13_attempts_at_desks_holds : PySem.Challenge.rw_runsplits_k13_attempts_at_desks.Holds := by
  w_on; o_law; k_head; (case hw => w_witness2)
  k_fill
  refine DL.walk_ofTabs (l := PySem.Challenge.rw_runsplits_k13_attempts_at_desks) (n := 63) (k := 19) (x := "_law_script") (CX := fun w => L2.CX (PySem.Challenge.rw_runsplits_k13_attempts_at_desks).prog w) ["_law_nested", "_law_ended", "_law_back"] rfl (by decide) rfl ⟨rfl, by decide, by decide⟩ (by intro y hy; simp only [List.mem_cons, List.not_mem_nil, or_false] at hy; rcases hy with rfl | rfl | rfl <;> kernel_rfl) (fun w h Y => PySem.W.km_in_of Y) ?F (fun _ _ _ _ _ h => DL.cx_none h)
  case F =>
    intro w mg fa h Y KX G hmg own
    refine' Z.all_mk KX G hmg ?B ?yx0 ?yx1 ?yx2 ?yx3 ?yx4 (PySem.W.mg_of KX G ?ye0) (PySem.W.mg_of KX G ?ye1) (PySem.W.mg_of KX G ?ye2) (PySem.W.mg_of KX G ?ye3) (PySem.W.mg_of KX G ?ye4) (PySem.W.mg_of KX G ?ye5) (PySem.W.mg_of KX G ?ye6) (PySem.W.mg_of KX G ?ye7) (PySem.W.mg_of KX G ?ye8) (PySem.W.mg_of KX G ?ye9) (PySem.W.mg_of KX G ?ye10) (PySem.W.mg_of KX G ?ye11) (PySem.W.mg_of KX G ?ye12) (PySem.W.mg_of KX G ?ye13) ?ym0 ?ym1 ?ym2 ?ym3 ?ym4 ?ym5 ?ym6 ?ym7 ?ym8 ?ym9 ?ym10 ?ym11 ?ym12 ?ym13 ?ym14 ?ym15 ?ym16 ?ym17 ?ym18 ?ym19 ?ym20 ?ym21 ?ym22 ?ym23 ?ym24 ?ym25 ?ym26 ?ym27 ?ym28 ?ym29 ?ym30 ?ym31 ?ym32 ?ym33 ?ym34 (Z.Defs.mk ?T0 ?T1 ?T2 ?T3 ?T4 ?T5 ?T6 ?T7 ?T8 ?T9 ?T10 ?T11 ?T12 ?T13 ?T14 ?T15 ?T16 ?T17 ?T18 ?T19 ?T20) (Z.Desks.mk ?doc ?dic (PySem.W.mg_of KX G ?dg) ?dmost ?m_after ?m_forget ?m_undo ?m_attempt ?m_len ?dtell ?d_iadd ?d_eq ?d_init ?dbook (PySem.W.mg_none_of KX G ?dkey) ?dkex) ?a_law_nested ?lk_law_nested ?cd_law_nested ?kp_law_nested ?lc_law_nested ?vp_law_nested ?np_law_nested ?hh_law_nested ?hT_law_nested ?hu_law_nested ?a_law_ended ?lk_law_ended ?cd_law_ended ?kp_law_ended ?lc_law_ended ?vp_law_ended ?np_law_ended ?hh_law_ended ?hT_law_ended ?hu_law_ended ?a_law_back ?lk_law_back ?cd_law_back ?kp_law_back ?lc_law_back ?vp_law_back ?np_law_back ?hh_law_back ?hT_law_back ?hu_law_back ?a_law_word ?lk_law_word ?cd_law_word ?kp_law_word ?a_law ?lk_law ?cd_law ?kp_law ?hTall own
    case dg => kernel_rfl
    case doc => exact ⟨⟨by kernel_rfl, by kernel_rfl, by kernel_rfl, by kernel_rfl⟩, by (unfold L2.NoAttr; kernel_rfl), by (unfold L2.NoAttr; kernel_rfl)⟩
    case dic => exact ⟨⟨by kernel_rfl, by kernel_rfl, by kernel_rfl, by kernel_rfl⟩, by kernel_rfl, by kernel_rfl, by kernel_rfl, by kernel_rfl, by kernel_rfl⟩
    case dmost =>
      refine' ⟨_, L2.Con.mk ?c1 ?c2 ?c3 ?c4⟩
      (case c1 => unfold DL.objC; k_is); (case c2 => exact ⟨_, rfl⟩); (case c3 => k_is); (case c4 => kernel_rfl)
    case m_after =>
      refine' Z.mthere_of ?c1 ?c2 ?c3 ?c4 ?c5 (fun _ _ _ _ _ _ us hl => match us, hl with | [_, _, _], _ => rfl)
      (case c1 => unfold DL.objC; k_is); (case c2 => k_is); (case c3 => k_is); (case c4 => k_is); (case c5 => k_is)
    case m_forget =>
      refine' Z.mthere_of ?c1 ?c2 ?c3 ?c4 ?c5 (fun _ _ _ _ _ _ us hl => match us, hl with | [_, _], _ => rfl)
      (case c1 => unfold DL.objC; k_is); (case c2 => k_is); (case c3 => k_is); (case c4 => k_is); (case c5 => k_is)
    case m_undo =>
      refine' Z.mthere_of ?c1 ?c2 ?c3 ?c4 ?c5 (fun _ _ _ _ _ _ us hl => match us, hl with | [_], _ => rfl)
      (case c1 => unfold DL.objC; k_is); (case c2 => k_is); (case c3 => k_is); (case c4 => k_is); (case c5 => k_is)
    case m_attempt =>
      refine' Z.mthere_of ?c1 ?c2 ?c3 ?c4 ?c5 (fun _ _ _ _ _ _ us hl => match us, hl with | [_, _], _ => rfl)
      (case c1 => unfold DL.objC; k_is); (case c2 => k_is); (case c3 => k_is); (case c4 => k_is); (case c5 => k_is)
    case m_len =>
      refine' Z.mthere_of ?c1 ?c2 ?c3 ?c4 ?c5 (fun _ _ _ _ _ _ us hl => match us, hl with | [_], _ => rfl)
      (case c1 => unfold DL.objC; k_is); (case c2 => k_is); (case c3 => k_is); (case c4 => k_is); (case c5 => k_is)
    case dtell =>
      refine' ⟨_, _, _, _, _, _, _, _, _, _, Z.SThere.mk ?c1 ?c2 ?c3 (L2.Meth.mk ?c4 ?c5 ?c6)⟩
      (case c4 => unfold DL.objC; k_is); (case c1 => k_is); (case c2 => k_is); (case c5 => k_is); (case c6 => k_is)
      case c3 => exact fun us rest hl => StX.bind_star1 (B := fun vs => bindArgs _ ⟨vs, []⟩) (fun _ => rfl) (fun _ _ _ => rfl) us rest hl
    case d_iadd =>
      refine' ⟨_, Z.fthere_of ?c2 ?c3 ?c4 ?c1 (fun _ _ _ _ _ _ us hl => match us, hl with | [_, _], _ => rfl)⟩
      case c1 => (refine' DL.IaddO.mk ?q1 ?q2 ?q3; (case q1 => unfold DL.objC; k_is); (case q2 => k_is); (case q3 => kernel_rfl))
      (case c2 => k_is); (case c3 => k_is); (case c4 => k_is)
    case d_eq =>
      refine' ⟨_, Z.fthere_of ?c2 ?c3 ?c4 ?c1 (fun _ _ _ _ _ _ us hl => match us, hl with | [_, _], _ => rfl)⟩
      case c1 => (refine' DL.CmpO.mk ?q1 ?q2 ?q3 ?q4; (case q1 => unfold DL.objC; k_is); (case q2 => k_is); (case q3 => kernel_rfl); (case q4 => kernel_rfl))
      (case c2 => k_is); (case c3 => k_is); (case c4 => k_is)
    case d_init =>
      refine' ⟨_, Z.fthere_of ?c2 ?c3 ?c4 ?c1 (fun _ _ _ _ _ _ us hl => match us, hl with | [_, _, _], _ => rfl)⟩
      case c1 => (refine' L2.Mk.mk ?q1 ?q2 ?q3 ?q4; (case q2 => unfold DL.objC; k_is); (case q1 => kernel_rfl); (case q3 => k_is); (case q4 => kernel_rfl))
      (case c2 => k_is); (case c3 => k_is); (case c4 => k_is)
    case dbook =>
      refine' ⟨_, _, Z.fthere_of ?c2 ?c3 ?c4 (Z.prop_of ?q1 ?q2 ?q3 ?q4 ?q5) (fun _ _ _ _ _ _ us hl => match us, hl with | [_], _ => rfl)⟩
      (case q1 => unfold DL.objC; k_is); (case q2 => k_is); (case q3 => k_is); (case q4 => k_is); (case q5 => exact rfl)
      (case c2 => k_is); (case c3 => k_is); (case c4 => k_is)
    (case dkey => k_is); (case dkex => kernel_rfl)
    case B =>
      refine' Z.Bl.mk ?b0 ?b1 ?b2 ?b3 ?b4 ?b5 ?b6 ?b7 ?b8 ?b9 ?b10 ?b11 ?b12 ?b13
      case b0 => refine' PySem.W.mg_none_of KX G ?_; k_is
      case b1 => refine' PySem.W.mg_none_of KX G ?_; k_is
      case b2 => refine' PySem.W.mg_none_of KX G ?_; k_is
      case b3 => refine' PySem.W.mg_none_of KX G ?_; k_is
      case b4 => refine' PySem.W.mg_none_of KX G ?_; k_is
      case b5 => refine' PySem.W.mg_none_of KX G ?_; k_is
      case b6 => refine' PySem.W.mg_none_of KX G ?_; k_is
      case b7 => refine' PySem.W.mg_none_of KX G ?_; k_is
      case b8 => refine' PySem.W.mg_none_of KX G ?_; k_is
      case b9 => refine' PySem.W.mg_none_of KX G ?_; k_is
      case b10 => refine' PySem.W.mg_none_of KX G ?_; k_is
      case b11 => refine' PySem.W.mg_none_of KX G ?_; k_is
      case b12 => refine' DL.gint_of KX G ?e; (case e => k_is)
      case b13 => refine' DL.gint_of KX G ?e; (case e => k_is)
    case yx0 =>
      refine' DL.ExC.mk (PySem.W.mg_of KX G ?yg) ?yq ?yk ?yb ?yt
      (case yg => k_is); (case yq => k_exc); (case yk => k_is); (case yb => k_is); (case yt => k_is)
    case yx1 =>
      refine' DL.ExC.mk (PySem.W.mg_of KX G ?yg) ?yq ?yk ?yb ?yt
      (case yg => k_is); (case yq => k_exc); (case yk => k_is); (case yb => k_is); (case yt => k_is)
    case yx2 =>
      refine' DL.ExC.mk (PySem.W.mg_of KX G ?yg) ?yq ?yk ?yb ?yt
      (case yg => k_is); (case yq => k_exc); (case yk => k_is); (case yb => k_is); (case yt => k_is)
    case yx3 =>
      refine' DL.ExC.mk (PySem.W.mg_of KX G ?yg) ?yq ?yk ?yb ?yt
      (case yg => k_is); (case yq => k_exc); (case yk => k_is); (case yb => k_is); (case yt => k_is)
    case yx4 =>
      refine' DL.ExC.mk (PySem.W.mg_of KX G ?yg) ?yq ?yk ?yb ?yt
      (case yg => k_is); (case yq => k_exc); (case yk => k_is); (case yb => k_is); (case yt => k_is)
    (case ye0 => k_is)
    (case ye1 => k_is)
    (case ye2 => k_is)
    (case ye3 => k_is)
    (case ye4 => k_is)
    (case ye5 => k_is)
    (case ye6 => k_is)
    (case ye7 => k_is)
    (case ye8 => k_is)
    (case ye9 => k_is)
    (case ye10 => k_is)
    (case ye11 => k_is)
    (case ye12 => k_is)
    (case ye13 => k_is)
    case ym0 =>
      refine' PySem.W.exm_ref ?yq1 ?yq2 ?yq3 ?yq4
      (case yq1 => k_is); (case yq2 => k_is); (case yq3 => k_is); (case yq4 => k_is)
    case ym1 =>
      refine' PySem.W.exm_ref ?yq1 ?yq2 ?yq3 ?yq4
      (case yq1 => k_is); (case yq2 => k_is); (case yq3 => k_is); (case yq4 => k_is)
    case ym2 =>
      refine' PySem.W.exm_ref ?yq1 ?yq2 ?yq3 ?yq4
      (case yq1 => k_is); (case yq2 => k_is); (case yq3 => k_is); (case yq4 => k_is)
    case ym3 =>
      refine' PySem.W.exm_ref ?yq1 ?yq2 ?yq3 ?yq4
      (case yq1 => k_is); (case yq2 => k_is); (case yq3 => k_is); (case yq4 => k_is)
    case ym4 =>
      refine' PySem.W.exm_ref ?yq1 ?yq2 ?yq3 ?yq4
      (case yq1 => k_is); (case yq2 => k_is); (case yq3 => k_is); (case yq4 => k_is)
    case ym5 =>
      refine' PySem.W.exm_ref ?yq1 ?yq2 ?yq3 ?yq4
      (case yq1 => k_is); (case yq2 => k_is); (case yq3 => k_is); (case yq4 => k_is)
    case ym6 =>
      refine' PySem.W.exm_ref ?yq1 ?yq2 ?yq3 ?yq4
      (case yq1 => k_is); (case yq2 => k_is); (case yq3 => k_is); (case yq4 => k_is)
    case ym7 =>
      refine' PySem.W.exm_ref ?yq1 ?yq2 ?yq3 ?yq4
      (case yq1 => k_is); (case yq2 => k_is); (case yq3 => k_is); (case yq4 => k_is)
    case ym8 =>
      refine' PySem.W.exm_ref ?yq1 ?yq2 ?yq3 ?yq4
      (case yq1 => k_is); (case yq2 => k_is); (case yq3 => k_is); (case yq4 => k_is)
    case ym9 =>
      refine' PySem.W.exm_ref ?yq1 ?yq2 ?yq3 ?yq4
      (case yq1 => k_is); (case yq2 => k_is); (case yq3 => k_is); (case yq4 => k_is)
    case ym10 =>
      refine' PySem.W.exm_ref ?yq1 ?yq2 ?yq3 ?yq4
      (case yq1 => k_is); (case yq2 => k_is); (case yq3 => k_is); (case yq4 => k_is)
    case ym11 =>
      refine' PySem.W.exm_ref ?yq1 ?yq2 ?yq3 ?yq4
      (case yq1 => k_is); (case yq2 => k_is); (case yq3 => k_is); (case yq4 => k_is)
    case ym12 =>
      refine' PySem.W.exm_ref ?yq1 ?yq2 ?yq3 ?yq4
      (case yq1 => k_is); (case yq2 => k_is); (case yq3 => k_is); (case yq4 => k_is)
    case ym13 =>
      refine' PySem.W.exm_ref ?yq1 ?yq2 ?yq3 ?yq4
      (case yq1 => k_is); (case yq2 => k_is); (case yq3 => k_is); (case yq4 => k_is)
    case ym14 =>
      refine' PySem.W.exm_ref ?yq1 ?yq2 ?yq3 ?yq4
      (case yq1 => k_is); (case yq2 => k_is); (case yq3 => k_is); (case yq4 => k_is)
    case ym15 =>
      refine' PySem.W.exm_ref ?yq1 ?yq2 ?yq3 ?yq4
      (case yq1 => k_is); (case yq2 => k_is); (case yq3 => k_is); (case yq4 => k_is)
    case ym16 =>
      refine' PySem.W.exm_ref ?yq1 ?yq2 ?yq3 ?yq4
      (case yq1 => k_is); (case yq2 => k_is); (case yq3 => k_is); (case yq4 => k_is)
    case ym17 =>
      refine' PySem.W.exm_ref ?yq1 ?yq2 ?yq3 ?yq4
      (case yq1 => k_is); (case yq2 => k_is); (case yq3 => k_is); (case yq4 => k_is)
    case ym18 =>
      refine' PySem.W.exm_ref ?yq1 ?yq2 ?yq3 ?yq4
      (case yq1 => k_is); (case yq2 => k_is); (case yq3 => k_is); (case yq4 => k_is)
    case ym19 =>
      refine' PySem.W.exm_ref ?yq1 ?yq2 ?yq3 ?yq4
      (case yq1 => k_is); (case yq2 => k_is); (case yq3 => k_is); (case yq4 => k_is)
    case ym20 =>
      refine' PySem.W.exm_ref ?yq1 ?yq2 ?yq3 ?yq4
      (case yq1 => k_is); (case yq2 => k_is); (case yq3 => k_is); (case yq4 => k_is)
    case ym21 =>
      refine' PySem.W.exm_ref ?yq1 ?yq2 ?yq3 ?yq4
      (case yq1 => k_is); (case yq2 => k_is); (case yq3 => k_is); (case yq4 => k_is)
    case ym22 =>
      refine' PySem.W.exm_ref ?yq1 ?yq2 ?yq3 ?yq4
      (case yq1 => k_is); (case yq2 => k_is); (case yq3 => k_is); (case yq4 => k_is)
    case ym23 =>
      refine' PySem.W.exm_ref ?yq1 ?yq2 ?yq3 ?yq4
      (case yq1 => k_is); (case yq2 => k_is); (case yq3 => k_is); (case yq4 => k_is)
    case ym24 =>
      refine' PySem.W.exm_ref ?yq1 ?yq2 ?yq3 ?yq4
      (case yq1 => k_is); (case yq2 => k_is); (case yq3 => k_is); (case yq4 => k_is)
    case ym25 =>
      refine' PySem.W.exm_ref ?yq1 ?yq2 ?yq3 ?yq4
      (case yq1 => k_is); (case yq2 => k_is); (case yq3 => k_is); (case yq4 => k_is)
    case ym26 =>
      refine' PySem.W.exm_ref ?yq1 ?yq2 ?yq3 ?yq4
      (case yq1 => k_is); (case yq2 => k_is); (case yq3 => k_is); (case yq4 => k_is)
    case ym27 =>
      refine' PySem.W.exm_ref ?yq1 ?yq2 ?yq3 ?yq4
      (case yq1 => k_is); (case yq2 => k_is); (case yq3 => k_is); (case yq4 => k_is)
    case ym28 =>
      refine' PySem.W.exm_ref ?yq1 ?yq2 ?yq3 ?yq4
      (case yq1 => k_is); (case yq2 => k_is); (case yq3 => k_is); (case yq4 => k_is)
    case ym29 =>
      refine' PySem.W.exm_ref ?yq1 ?yq2 ?yq3 ?yq4
      (case yq1 => k_is); (case yq2 => k_is); (case yq3 => k_is); (case yq4 => k_is)
    case ym30 =>
      refine' PySem.W.exm_ref ?yq1 ?yq2 ?yq3 ?yq4
      (case yq1 => k_is); (case yq2 => k_is); (case yq3 => k_is); (case yq4 => k_is)
    case ym31 =>
      refine' PySem.W.exm_ref ?yq1 ?yq2 ?yq3 ?yq4
      (case yq1 => k_is); (case yq2 => k_is); (case yq3 => k_is); (case yq4 => k_is)
    case ym32 =>
      refine' PySem.W.exm_ref ?yq1 ?yq2 ?yq3 ?yq4
      (case yq1 => k_is); (case yq2 => k_is); (case yq3 => k_is); (case yq4 => k_is)
    case ym33 =>
      refine' PySem.W.exm_ref ?yq1 ?yq2 ?yq3 ?yq4
      (case yq1 => k_is); (case yq2 => k_is); (case yq3 => k_is); (case yq4 => k_is)
    case ym34 =>
      refine' PySem.W.exm_ref ?yq1 ?yq2 ?yq3 ?yq4
      (case yq1 => k_is); (case yq2 => k_is); (case yq3 => k_is); (case yq4 => k_is)
    case T0 =>
      refine' DL.there_of KX G ?yq1 ?yq2 ?yq3 ?yq4 (fun _ _ _ _ _ _ us hl => match us, hl with | [_, _, _], _ => rfl)
      (case yq1 => k_is); (case yq2 => k_is); (case yq3 => k_is); (case yq4 => k_is)
    case T1 =>
      refine' DL.there_of KX G ?yq1 ?yq2 ?yq3 ?yq4 (fun _ _ _ _ _ _ us hl => match us, hl with | [_, _, _], _ => rfl)
      (case yq1 => k_is); (case yq2 => k_is); (case yq3 => k_is); (case yq4 => k_is)
    case T2 =>
      refine' DL.there_of KX G ?yq1 ?yq2 ?yq3 ?yq4 (fun _ _ _ _ _ _ us hl => match us, hl with | [_, _, _], _ => rfl)
      (case yq1 => k_is); (case yq2 => k_is); (case yq3 => k_is); (case yq4 => k_is)
    case T3 =>
      refine' DL.there_of KX G ?yq1 ?yq2 ?yq3 ?yq4 (fun _ _ _ _ _ _ us hl => match us, hl with | [_], _ => rfl)
      (case yq1 => k_is); (case yq2 => k_is); (case yq3 => k_is); (case yq4 => k_is)
    case T4 =>
      refine' DL.there_of KX G ?yq1 ?yq2 ?yq3 ?yq4 (fun _ _ _ _ _ _ us hl => match us, hl with | [_, _, _, _, _, _], _ => rfl)
      (case yq1 => k_is); (case yq2 => k_is); (case yq3 => k_is); (case yq4 => k_is)
    case T5 =>
      refine' DL.there_of KX G ?yq1 ?yq2 ?yq3 ?yq4 (fun _ _ _ _ _ _ us hl => match us, hl with | [_, _, _, _, _, _], _ => rfl)
      (case yq1 => k_is); (case yq2 => k_is); (case yq3 => k_is); (case yq4 => k_is)
    case T6 =>
      refine' DL.there_of KX G ?yq1 ?yq2 ?yq3 ?yq4 (fun _ _ _ _ _ _ us hl => match us, hl with | [_, _, _], _ => rfl)
      (case yq1 => k_is); (case yq2 => k_is); (case yq3 => k_is); (case yq4 => k_is)
    case T7 =>
      refine' DL.there_of KX G ?yq1 ?yq2 ?yq3 ?yq4 (fun _ _ _ _ _ _ us hl => match us, hl with | [_, _], _ => rfl)
      (case yq1 => k_is); (case yq2 => k_is); (case yq3 => k_is); (case yq4 => k_is)
    case T8 =>
      refine' DL.there_of KX G ?yq1 ?yq2 ?yq3 ?yq4 (fun _ _ _ _ _ _ us hl => match us, hl with | [_, _, _], _ => rfl)
      (case yq1 => k_is); (case yq2 => k_is); (case yq3 => k_is); (case yq4 => k_is)
    case T9 =>
      refine' DL.there_of KX G ?yq1 ?yq2 ?yq3 ?yq4 (fun _ _ _ _ _ _ us hl => match us, hl with | [_, _], _ => rfl)
      (case yq1 => k_is); (case yq2 => k_is); (case yq3 => k_is); (case yq4 => k_is)
    case T10 =>
      refine' DL.there_of KX G ?yq1 ?yq2 ?yq3 ?yq4 (fun _ _ _ _ _ _ us hl => match us, hl with | [_, _, _], _ => rfl)
      (case yq1 => k_is); (case yq2 => k_is); (case yq3 => k_is); (case yq4 => k_is)
    case T11 =>
      refine' DL.there_of KX G ?yq1 ?yq2 ?yq3 ?yq4 (fun _ _ _ _ _ _ us hl => match us, hl with | [_, _], _ => rfl)
      (case yq1 => k_is); (case yq2 => k_is); (case yq3 => k_is); (case yq4 => k_is)
    case T12 =>
      refine' DL.there_of KX G ?yq1 ?yq2 ?yq3 ?yq4 (fun _ _ _ _ _ _ us hl => match us, hl with | [_, _, _], _ => rfl)
      (case yq1 => k_is); (case yq2 => k_is); (case yq3 => k_is); (case yq4 => k_is)
    case T13 =>
      refine' DL.there_of KX G ?yq1 ?yq2 ?yq3 ?yq4 (fun _ _ _ _ _ _ us hl => match us, hl with | [_, _], _ => rfl)
      (case yq1 => k_is); (case yq2 => k_is); (case yq3 => k_is); (case yq4 => k_is)
    case T14 =>
      refine' DL.there_of KX G ?yq1 ?yq2 ?yq3 ?yq4 (fun _ _ _ _ _ _ us hl => match us, hl with | [_, _, _], _ => rfl)
      (case yq1 => k_is); (case yq2 => k_is); (case yq3 => k_is); (case yq4 => k_is)
    case T15 =>
      refine' DL.there_of KX G ?yq1 ?yq2 ?yq3 ?yq4 (fun _ _ _ _ _ _ us hl => match us, hl with | [_], _ => rfl)
      (case yq1 => k_is); (case yq2 => k_is); (case yq3 => k_is); (case yq4 => k_is)
    case T16 =>
      refine' DL.there_of KX G ?yq1 ?yq2 ?yq3 ?yq4 (fun _ _ _ _ _ _ us hl => match us, hl with | [_, _], _ => rfl)
      (case yq1 => k_is); (case yq2 => k_is); (case yq3 => k_is); (case yq4 => k_is)
    case T17 =>
      refine' DL.there_of KX G ?yq1 ?yq2 ?yq3 ?yq4 (fun _ _ _ _ _ _ us hl => match us, hl with | [_, _], _ => rfl)
      (case yq1 => k_is); (case yq2 => k_is); (case yq3 => k_is); (case yq4 => k_is)
    case T18 =>
      refine' DL.there_of KX G ?yq1 ?yq2 ?yq3 ?yq4 (fun _ _ _ _ _ _ us hl => match us, hl with | [_, _, _], _ => rfl)
      (case yq1 => k_is); (case yq2 => k_is); (case yq3 => k_is); (case yq4 => k_is)
    case T19 =>
      refine' DL.there_of KX G ?yq1 ?yq2 ?yq3 ?yq4 (fun _ _ _ _ _ _ us hl => match us, hl with | [_], _ => rfl)
      (case yq1 => k_is); (case yq2 => k_is); (case yq3 => k_is); (case yq4 => k_is)
    case T20 =>
      refine' DL.there_of KX G ?yq1 ?yq2 ?yq3 ?yq4 (fun _ _ _ _ _ _ us hl => match us, hl with | [_, _], _ => rfl)
      (case yq1 => k_is); (case yq2 => k_is); (case yq3 => k_is); (case yq4 => k_is)
    (case a_law_nested => k_is); (case lk_law_nested => k_is); (case cd_law_nested => k_is); (case kp_law_nested => k_is)
    (case lc_law_nested => k_is)
    (case vp_law_nested => exact rfl)
    (case np_law_nested => kernel_rfl); (case hh_law_nested => kernel_rfl)
    (case hT_law_nested => simp [DL.lamT])
    (case hu_law_nested => (intro p hp; simp only [DL.lamT, List.mem_cons, List.not_mem_nil, or_false] at hp; rcases hp with rfl | rfl | rfl <;> simp))
    (case a_law_ended => k_is); (case lk_law_ended => k_is); (case cd_law_ended => k_is); (case kp_law_ended => k_is)
    (case lc_law_ended => k_is)
    (case vp_law_ended => exact rfl)
    (case np_law_ended => kernel_rfl); (case hh_law_ended => kernel_rfl)
    (case hT_law_ended => simp [DL.lamT])
    (case hu_law_ended => (intro p hp; simp only [DL.lamT, List.mem_cons, List.not_mem_nil, or_false] at hp; rcases hp with rfl | rfl | rfl <;> simp))
    (case a_law_back => k_is); (case lk_law_back => k_is); (case cd_law_back => k_is); (case kp_law_back => k_is)
    (case lc_law_back => k_is)
    (case vp_law_back => exact rfl)
    (case np_law_back => kernel_rfl); (case hh_law_back => kernel_rfl)
    (case hT_law_back => simp [DL.lamT])
    (case hu_law_back => (intro p hp; simp only [DL.lamT, List.mem_cons, List.not_mem_nil, or_false] at hp; rcases hp with rfl | rfl | rfl <;> simp))
    (case a_law_word => k_is); (case lk_law_word => k_is); (case cd_law_word => k_is); (case kp_law_word => k_is)
    (case a_law => k_is); (case lk_law => k_is); (case cd_law => k_is); (case kp_law => k_is)
    case hTall => (intro p hp; simp only [DL.lamT, List.mem_cons, List.not_mem_nil, or_false] at hp; rcases hp with rfl | rfl | rfl <;> simp)

