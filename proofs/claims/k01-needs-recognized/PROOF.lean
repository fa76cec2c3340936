import PyProof.Rows.All
import Wide.All
import OpenK.AllK
import Wide.FinOn
import HandS.ForMost
import HandS.ForExc
import HandS.Flow
import HandS.Walk
import HandS.Wide
import HandS.Deep
import HandS.TupAny
import HandS.IsInst
import HandS.SortInts
import HandS.RaiseMore
import HandS.More
import HandS.WordsDict
import HandS.StrMore
import HandS.SetFor
import HandS.Conv
import HandS.TupLe
import HandS.Style
import PySem.Challenge.RW_putoffs_k01_needs_recognized
set_option Elab.async false
set_option linter.all false
set_option maxRecDepth 100000
/-! DL: trees (frozen data) and a store of mutable objects over the layer L2. -/
namespace DL
open PySem PySem.Spec PyProof.Rows L2
/-- a value as a tree; ref: an object by its address; scr: the law's script -/
inductive D where
  | non | bl (b : Bool) | int (i : Int) | str (x : Str) | ty (n : String) | ref (a : Addr)
  | lst (ds : List D) | tup (ds : List D) | dic (kvs : List (Key × D)) | ins (C : Addr) (fs : List (Str × D)) | scr (ds : List D)
/-- what stands at an address of the store -/
inductive MO where
  | lst (ds : List D) | dic (kvs : List (Key × D)) | ins (C : Addr) (fs : List (Str × D))
abbrev Mu := Addr → Option MO
def updM (m : Mu) (p : Addr) (o : MO) : Mu := fun b => if b = p then some o else m b
def delM (m : Mu) (p : Addr) : Mu := fun b => if b = p then none else m b
theorem updM_same {m : Mu} {p : Addr} {o : MO} : updM m p o p = some o := by unfold updM; rw [if_pos rfl]
theorem updM_ne {m : Mu} {p b : Addr} {o : MO} (h : b ≠ p) : updM m p o b = m b := by unfold updM; rw [if_neg h]
theorem delM_same {m : Mu} {p : Addr} : delM m p p = none := by unfold delM; rw [if_pos rfl]
theorem delM_ne {m : Mu} {p b : Addr} (h : b ≠ p) : delM m p b = m b := by unfold delM; rw [if_neg h]
/-- the frozen part of a heap -/
def hid (m : Mu) (H : Hp) : Hp := fun b => if (m b).isSome = true then none else H b
theorem hid_none {m : Mu} {H : Hp} {b : Addr} (h : m b = none) : hid m H b = H b := by unfold hid; rw [h]; rfl
theorem hid_some {m : Mu} {H : Hp} {b : Addr} {o : MO} (h : m b = some o) : hid m H b = none := by unfold hid; rw [h]; rfl
theorem of_hid {m : Mu} {H : Hp} {b : Addr} {o : HO} (h : hid m H b = some o) : m b = none ∧ H b = some o := by
  unfold hid at h
  cases e : m b with
  | none => rw [e] at h; exact ⟨rfl, h⟩
  | some x => rw [e] at h; cases h
theorem hid_same {m : Mu} {H : Hp} : Same (hid m H) H := fun _ _ h => (of_hid h).2
/-- the law's script: known to the object, or an object of the module -/
def Scr (K : PySem.W.Frag) (G : Hp) (a : Addr) (xs : List V) : Prop :=
  ((∃ o, G a = some (.frz o (.lst xs))) ∧ xs.length ≤ sizeLine) ∨ ∃ its : List Value, K.lookup a = some { cls := .type "list", data := .seq its.toArray } ∧ Vals xs its ∧ xs.length ≤ sizeLine
section
variable (K : PySem.W.Frag) (G : Hp)
mutual
inductive Dv : V → D → Prop
  | non : Dv .non .non
  | bl (b : Bool) : Dv (.bl b) (.bl b)
  | int (i : Int) : Dv (.int i) (.int i)
  | str (x : Str) : Dv (.str x) (.str x)
  | ty (n : String) : Dv (.ty n) (.ty n)
  | ref (a : Addr) : Dv (.ref a) (.ref a)
  | lst {a : Addr} {xs : List V} {ds : List D} : G a = some (.lst xs) → xs.length ≤ sizeLine → DvAll xs ds → Dv (.ref a) (.lst ds)
  | scr {a : Addr} {xs : List V} {ds : List D} : Scr K G a xs → DvAll xs ds → Dv (.ref a) (.scr ds)
  | tup {a : Addr} {xs : List V} {ds : List D} : SqT K G a xs → xs.length ≤ sizeLine → DvAll xs ds → Dv (.ref a) (.tup ds)
  | dic {a : Addr} {xs : List (Key × V)} {ds : List (Key × D)} : G a = some (.dK xs) → DvKv xs ds → Dv (.ref a) (.dic ds)
  | ins {a C dx : Addr} {xs : List (Str × V)} {ds : List (Str × D)} : G a = some (.ins C dx xs) → DvFs xs ds → Dv (.ref a) (.ins C ds)
inductive DvAll : List V → List D → Prop
  | nil : DvAll [] []
  | cons {v : V} {d : D} {vs : List V} {ds : List D} : Dv v d → DvAll vs ds → DvAll (v :: vs) (d :: ds)
inductive DvKv : List (Key × V) → List (Key × D) → Prop
  | nil : DvKv [] []
  | cons {k : Key} {v : V} {d : D} {vs : List (Key × V)} {ds : List (Key × D)} : Dv v d → DvKv vs ds → DvKv ((k, v) :: vs) ((k, d) :: ds)
inductive DvFs : List (Str × V) → List (Str × D) → Prop
  | nil : DvFs [] []
  | cons {k : Str} {v : V} {d : D} {vs : List (Str × V)} {ds : List (Str × D)} : Dv v d → DvFs vs ds → DvFs ((k, v) :: vs) ((k, d) :: ds)
end
end
section
variable {K : PySem.W.Frag} {G G' : Hp}
mutual
theorem Dv.mono (e : Same G G') : ∀ {v : V} {d : D}, Dv K G v d → Dv K G' v d
  | _, _, .non => .non
  | _, _, .bl b => .bl b
  | _, _, .int b => .int b
  | _, _, .str b => .str b
  | _, _, .ty b => .ty b
  | _, _, .ref b => .ref b
  | _, _, .lst h l r => .lst (e _ _ h) l (DvAll.mono e r)
  | _, _, .scr h r => .scr (h.imp (fun ⟨⟨o, h⟩, l⟩ => ⟨⟨o, e _ _ h⟩, l⟩) id) (DvAll.mono e r)
  | _, _, .tup h l r => .tup (by
      rcases h with (h | ⟨o, h⟩) | h
      · exact .inl (.inl (e _ _ h))
      · exact .inl (.inr ⟨o, e _ _ h⟩)
      · exact .inr h) l (DvAll.mono e r)
  | _, _, .dic h r => .dic (e _ _ h) (DvKv.mono e r)
  | _, _, .ins h r => .ins (e _ _ h) (DvFs.mono e r)
theorem DvAll.mono (e : Same G G') : ∀ {v : List V} {d : List D}, DvAll K G v d → DvAll K G' v d
  | _, _, .nil => .nil
  | _, _, .cons h r => .cons (Dv.mono e h) (DvAll.mono e r)
theorem DvKv.mono (e : Same G G') : ∀ {v : List (Key × V)} {d : List (Key × D)}, DvKv K G v d → DvKv K G' v d
  | _, _, .nil => .nil
  | _, _, .cons h r => .cons (Dv.mono e h) (DvKv.mono e r)
theorem DvFs.mono (e : Same G G') : ∀ {v : List (Str × V)} {d : List (Str × D)}, DvFs K G v d → DvFs K G' v d
  | _, _, .nil => .nil
  | _, _, .cons h r => .cons (Dv.mono e h) (DvFs.mono e r)
end
theorem DvAll.length : ∀ {v : List V} {d : List D}, DvAll K G v d → v.length = d.length
  | _, _, .nil => rfl
  | _, _, .cons _ r => congrArg (· + 1) r.length
theorem DvAll.get : ∀ {v : List V} {d : List D} {i : Nat} {x : D}, DvAll K G v d → d[i]? = some x → ∃ u, v[i]? = some u ∧ Dv K G u x
  | _, _, _, _, .nil, e => by simp at e
  | _, _, 0, _, .cons h _, e => by simp at e; subst e; exact ⟨_, rfl, h⟩
  | _, _, i + 1, x, .cons _ r, e => by
    obtain ⟨u, h1, h2⟩ := DvAll.get (i := i) (x := x) r (by simpa using e)
    exact ⟨u, by simpa using h1, h2⟩
theorem DvAll.get2 : ∀ {v : List V} {d : List D} {i : Nat} {u : V}, DvAll K G v d → v[i]? = some u → ∃ x, d[i]? = some x ∧ Dv K G u x
  | _, _, _, _, .nil, e => by simp at e
  | _, _, 0, _, .cons h _, e => by simp at e; subst e; exact ⟨_, rfl, h⟩
  | _, _, i + 1, x, .cons _ r, e => by
    obtain ⟨u, h1, h2⟩ := DvAll.get2 (i := i) (u := x) r (by simpa using e)
    exact ⟨u, by simpa using h1, h2⟩
theorem DvAll.append : ∀ {v w : List V} {d e : List D}, DvAll K G v d → DvAll K G w e → DvAll K G (v ++ w) (d ++ e)
  | _, _, _, _, .nil, s => s
  | _, _, _, _, .cons h r, s => .cons h (DvAll.append r s)
theorem DvAll.take : ∀ {v : List V} {d : List D} (n : Nat), DvAll K G v d → DvAll K G (v.take n) (d.take n)
  | _, _, 0, _ => .nil
  | _, _, _ + 1, .nil => .nil
  | _, _, n + 1, .cons h r => .cons h (DvAll.take n r)
theorem DvAll.drop : ∀ {v : List V} {d : List D} (n : Nat), DvAll K G v d → DvAll K G (v.drop n) (d.drop n)
  | _, _, 0, r => r
  | _, _, _ + 1, .nil => .nil
  | _, _, n + 1, .cons _ r => DvAll.drop n r
theorem DvAll.set {u : V} {x : D} (h : Dv K G u x) : ∀ {v : List V} {d : List D} (i : Nat), DvAll K G v d → DvAll K G (v.set i u) (d.set i x)
  | _, _, _, .nil => .nil
  | _, _, 0, .cons _ r => .cons h r
  | _, _, i + 1, .cons q r => .cons q (DvAll.set h i r)
theorem DvAll.ints : ∀ (ns : List Int), DvAll K G (ns.map V.int) (ns.map D.int)
  | [] => .nil
  | n :: r => .cons (.int n) (DvAll.ints r)
theorem DvAll.inv_ints : ∀ {v : List V} (ns : List Int), DvAll K G v (ns.map D.int) → v = ns.map V.int
  | _, [], .nil => rfl
  | _, n :: r, .cons h q => by
    cases h
    rw [DvAll.inv_ints r q]; rfl
end
/-! ### the store is held; frames -/
def MOk (K : PySem.W.Frag) (G : Hp) (o : Option HO) : MO → Prop
  | .lst ds => ∃ xs, o = some (.lst xs) ∧ xs.length ≤ sizeLine ∧ DvAll K G xs ds
  | .dic ds => ∃ xs, o = some (.dK xs) ∧ DvKv K G xs ds
  | .ins C ds => ∃ dx xs, o = some (.ins C dx xs) ∧ DvFs K G xs ds
theorem MOk.mono {K : PySem.W.Frag} {G G' : Hp} {o : Option HO} (e : Same G G') : ∀ {m : MO}, MOk K G o m → MOk K G' o m
  | .lst _, ⟨xs, h, l, r⟩ => ⟨xs, h, l, r.mono e⟩
  | .dic _, ⟨xs, h, r⟩ => ⟨xs, h, r.mono e⟩
  | .ins _ _, ⟨dx, xs, h, r⟩ => ⟨dx, xs, h, r.mono e⟩
theorem MOk.there {K : PySem.W.Frag} {G : Hp} {o : Option HO} : ∀ {m : MO}, MOk K G o m → ∃ x, o = some x
  | .lst _, ⟨_, h, _⟩ => ⟨_, h⟩
  | .dic _, ⟨_, h, _⟩ => ⟨_, h⟩
  | .ins _ _, ⟨_, _, h, _⟩ => ⟨_, h⟩
def MuOk (K : PySem.W.Frag) (m : Mu) (H : Hp) : Prop := ∀ p o, m p = some o → MOk K (hid m H) (H p) o
/-- from (m, H) on: what was frozen is as it was -/
def Fr (m : Mu) (H : Hp) (m' : Mu) (H' : Hp) : Prop := ∀ b o, m b = none → H b = some o → m' b = none ∧ H' b = some o
theorem Fr.refl {m : Mu} {H : Hp} : Fr m H m H := fun _ _ h e => ⟨h, e⟩
theorem Fr.trans {m m1 m2 : Mu} {H H1 H2 : Hp} (a : Fr m H m1 H1) (b : Fr m1 H1 m2 H2) : Fr m H m2 H2 := fun c o h e => let ⟨x, y⟩ := a c o h e; b c o x y
theorem Fr.same {m m1 : Mu} {H H1 : Hp} (a : Fr m H m1 H1) : Same (hid m H) (hid m1 H1) := fun b o h => by
  obtain ⟨x, y⟩ := of_hid h
  obtain ⟨x', y'⟩ := a b o x y
  rw [hid_none x']; exact y'
abbrev DEnv := List (Option D)
abbrev EnvOk (K : PySem.W.Frag) (G : Hp) : L2.St → DEnv → Prop := Paired fun o d => ∀ e, d = some e → ∃ v, o = some v ∧ Dv K G v e
structure Rp (K : PySem.W.Frag) (m : Mu) (H : Hp) (st : L2.St) (t : DEnv) : Prop where
  mu : MuOk K m H
  env : EnvOk K (hid m H) st t
section
variable {K : PySem.W.Frag} {m m' : Mu} {H H' : Hp} {st st' : L2.St} {t t' : DEnv} {G G' : Hp}
theorem EnvOk.mono (e : Same G G') (h : EnvOk K G st t) : EnvOk K G' st t := L2.Paired.mapP h fun _ _ q x hx => let ⟨v, a, b⟩ := q x hx; ⟨v, a, b.mono e⟩
theorem EnvOk.get {d : D} : ∀ {st : L2.St} {t : DEnv} {i : Nat}, EnvOk K G st t → t[i]? = some (some d) → ∃ v, st[i]? = some (some v) ∧ Dv K G v d
  | _, _, _, .nil, e => by simp at e
  | _, _, 0, .cons h _, e => by
    simp at e
    obtain ⟨v, a, b⟩ := h d e
    subst a
    exact ⟨v, rfl, b⟩
  | _, _, i + 1, .cons _ r, e => by
    obtain ⟨v, a, b⟩ := EnvOk.get (d := d) (i := i) r (by simpa using e)
    exact ⟨v, by simpa using a, b⟩
theorem EnvOk.set {v : V} {d : D} (h : Dv K G v d) : ∀ {st : L2.St} {t : DEnv} (i : Nat), EnvOk K G st t → EnvOk K G (st.set i (some v)) (t.set i (some d))
  | _, _, _, .nil => .nil
  | _, _, 0, .cons _ r => .cons (fun e he => ⟨v, rfl, by cases he; exact h⟩) r
  | _, _, i + 1, .cons q r => .cons q (EnvOk.set h i r)
theorem EnvOk.unset : ∀ {st : L2.St} {t : DEnv} (i : Nat), EnvOk K G st t → EnvOk K G (st.set i none) (t.set i none)
  | _, _, _, .nil => .nil
  | _, _, 0, .cons _ r => .cons (fun e he => nomatch he) r
  | _, _, i + 1, .cons q r => .cons q (EnvOk.unset i r)
def wipeD (t : DEnv) : List Nat → DEnv
  | [] => t
  | v :: vs => (wipeD t vs).set v none
theorem EnvOk.wipe (h : EnvOk K G st t) : ∀ vs : List Nat, EnvOk K G (wipe st vs) (wipeD t vs)
  | [] => h
  | v :: vs => (EnvOk.wipe h vs).unset v
theorem Rp.step (r : Rp K m H st t) (mu : MuOk K m' H') (f : Fr m H m' H') : Rp K m' H' st t := ⟨mu, r.env.mono f.same⟩
end
/-! ### readings over trees -/
abbrev DQ := D → Mu → Prop
abbrev DX := Value → Option (List (Str × D)) → Mu → Prop
abbrev TD := DEnv → Mu → DQ → DX → Prop
abbrev TDT := DEnv → Mu → (Bool → Mu → Prop) → DX → Prop
abbrev TDA := DEnv → Mu → (List D → Mu → Prop) → DX → Prop
/-- the exceptional end: what the store and the payload are -/
def XOk (K : PySem.W.Frag) (E : XK) (m : Mu) (H : Hp) (Ex : DX) : Prop := ∀ (c : Value) (od : Option Addr) (fs : Option (List (Str × D))) (H' : Hp) (m' : Mu), MuOk K m' H' → Fr m H m' H' →
  (match fs, od with | none, none => True | some l, some a => ∃ ks, H' a = some (.xd ks) ∧ DvFs K (hid m' H') ks l | _, _ => False) → Ex c fs m' → E c od H'
theorem XOk.step {K : PySem.W.Frag} {E : XK} {m m1 : Mu} {H H1 : Hp} {Ex : DX} (x : XOk K E m H Ex) (f : Fr m H m1 H1) : XOk K E m1 H1 Ex := fun c od fs H' m' a b => x c od fs H' m' a (f.trans b)
def tL (K : PySem.W.Frag) (E : XK) (t : TD) : TE := fun st H Qv => ∃ (tau : DEnv) (m : Mu) (Q : DQ) (Ex : DX), Rp K m H st tau ∧ t tau m Q Ex ∧
  (∀ v d H' m', MuOk K m' H' → Fr m H m' H' → Dv K (hid m' H') v d → Q d m' → Qv v H') ∧ XOk K E m H Ex
def tLT (K : PySem.W.Frag) (E : XK) (t : TDT) : TT := fun st H Qv => ∃ (tau : DEnv) (m : Mu) (Q : Bool → Mu → Prop) (Ex : DX), Rp K m H st tau ∧ t tau m Q Ex ∧
  (∀ b H' m', MuOk K m' H' → Fr m H m' H' → Q b m' → Qv b H') ∧ XOk K E m H Ex
def tLA (K : PySem.W.Frag) (E : XK) (t : TDA) : TA := fun st H Qv => ∃ (tau : DEnv) (m : Mu) (Q : List D → Mu → Prop) (Ex : DX), Rp K m H st tau ∧ t tau m Q Ex ∧
  (∀ v d H' m', MuOk K m' H' → Fr m H m' H' → DvAll K (hid m' H') v d → Q d m' → Qv v H') ∧ XOk K E m H Ex
/-- readings may be weakened -/
theorem pe_imp {X : Cx} {e : Expr} {t u : TE} (h : PE X e t) (i : ∀ st H Q, u st H Q → t st H Q) : PE X e u := ⟨fun pins s st H Q I q => h.run pins s st H Q I (i st H Q q)⟩
theorem pt_imp {X : Cx} {e : Expr} {t u : TT} (h : PT X e t) (i : ∀ st H Q, u st H Q → t st H Q) : PT X e u := ⟨fun pins s st H Q I q => h.run pins s st H Q I (i st H Q q)⟩
theorem pw_imp {X : Cx} {e : Expr} {t u : TT} (h : PW X e t) (i : ∀ st H Q, u st H Q → t st H Q) : PW X e u := ⟨fun w pins s st H Q I q => h.run w pins s st H Q I (i st H Q q)⟩
theorem pa_imp {X : Cx} {e : List Expr} {t u : TA} (h : PA X e t) (i : ∀ st H Q, u st H Q → t st H Q) : PA X e u := ⟨fun pos pins s st H Q I q => h.run pos pins s st H Q I (i st H Q q)⟩
theorem ps_imp {X : Cx} {e : Stmt} {t u : TS} (h : PS X e t) (i : ∀ D st H, u D st H → t D st H) : PS X e u := ⟨fun pins s st H D I q => h.run pins s st H D I (i D st H q)⟩
theorem pss_imp {X : Cx} {e : List Stmt} {t u : TS} (h : PSs X e t) (i : ∀ D st H, u D st H → t D st H) : PSs X e u := ⟨fun pins s st H D I q => h.run pins s st H D I (i D st H q)⟩
theorem pe_or2 {X : Cx} {e : Expr} {t u : TE} (h : PE X e t) (h' : PE X e u) : PE X e (fun st H Q => t st H Q ∨ u st H Q) := ⟨fun pins s st H Q I q => q.elim (h.run pins s st H Q I) (h'.run pins s st H Q I)⟩
/-! ### expressions -/
section
variable {X : Cx} {E : XK}
def dVar (i : Nat) : TD := fun tau m Q _ => ∃ d, tau[i]? = some (some d) ∧ Q d m
theorem dv (i : Nat) {x : Str} {pos : Pos} (hN : X.N[i]? = some x := by rfl) (hv : Vis X.env.scope x := by first | exact Or.inl rfl | exact Or.inr (Or.inl rfl) | exact Or.inr (Or.inr rfl)) (hd : (x == ("__debug__" : Str)) = false := by decide)
    (hcd : (x == ("__classdict__" : Str)) = false := by decide) : PE X (.Name x pos) (tL X.K E (dVar i)) := pe_imp (pe_var hN hv hd hcd) fun st H Q ⟨tau, m, Q', Ex, r, ⟨d, h1, h2⟩, k, x⟩ => by
  obtain ⟨v, a, b⟩ := r.env.get h1
  exact ⟨v, a, k v d H m r.mu .refl b h2⟩
def dC (d : D) : TD := fun _ m Q _ => Q d m
theorem lift_c {e : Expr} {v : V} {d : D} (h : PE X e (tC v)) (hd : ∀ G, Dv X.K G v d) : PE X e (tL X.K E (dC d)) := pe_imp h fun st H Q ⟨tau, m, Q', Ex, r, q, k, x⟩ => k v d H m r.mu .refl (hd _) q
theorem de_int {i j pos} : PE X (.Constant (.int i) j pos) (tL X.K E (dC (.int i))) := lift_c pe_int fun _ => .int i
theorem de_bl {b j pos} : PE X (.Constant (.bool b) j pos) (tL X.K E (dC (.bl b))) := lift_c pe_bl fun _ => .bl b
theorem de_non {j pos} : PE X (.Constant .none j pos) (tL X.K E (dC .non)) := lift_c pe_non fun _ => .non
theorem de_str {x j pos} : PE X (.Constant (.str x) j pos) (tL X.K E (dC (.str x))) := lift_c pe_str fun _ => .str x
theorem de_gint {x : Str} {i : Int} {tk : Tok} {pos : Pos} (hg : Gl X x) (hm : X.mg x = some (.int i tk)) (hd : (x == ("__debug__" : Str)) = false := by decide) : PE X (.Name x pos) (tL X.K E (dC (.int i))) := lift_c (pe_glob hg hm (v := .int i) ⟨tk, rfl⟩ hd) fun _ => .int i
theorem de_gstr {x : Str} {i : Str} {tk : Tok} {pos : Pos} (hg : Gl X x) (hm : X.mg x = some (.str i tk)) (hd : (x == ("__debug__" : Str)) = false := by decide) : PE X (.Name x pos) (tL X.K E (dC (.str i))) := lift_c (pe_glob hg hm (v := .str i) ⟨tk, rfl⟩ hd) fun _ => .str i
theorem de_gref {x : Str} {a : Addr} {pos : Pos} (hg : Gl X x) (hm : X.mg x = some (.ref a)) (hd : (x == ("__debug__" : Str)) = false := by decide) : PE X (.Name x pos) (tL X.K E (dC (.ref a))) := lift_c (pe_glob hg hm (v := .ref a) rfl hd) fun _ => .ref a
theorem de_bty {x : Str} {n : String} {pos : Pos} (hg : Gl X x) (hm : X.mg x = none) (hv : bootBuiltins x = some (.type n)) (hn : x ≠ "__name__" := by decide) (hd : (x == ("__debug__" : Str)) = false := by decide) : PE X (.Name x pos) (tL X.K E (dC (.ty n))) :=
  lift_c (pe_bltn hg hm hv (v := .ty n) rfl hn hd) fun _ => .ty n
/-- an operation on two values, over trees -/
abbrev RD2 := D → D → Mu → DQ → Prop
def Op2 (K : PySem.W.Frag) (r : R2) (rd : RD2) : Prop := ∀ (v w : V) (d e : D) (H : Hp) (m : Mu) (Q : DQ) (Qv : VK), MuOk K m H → Dv K (hid m H) v d → Dv K (hid m H) w e → rd d e m Q →
  (∀ v' d' H' m', MuOk K m' H' → Fr m H m' H' → Dv K (hid m' H') v' d' → Q d' m' → Qv v' H') → r v w H Qv
def dOp (rd : RD2) (ta tb : TD) : TD := fun tau m Q Ex => ta tau m (fun d m1 => tb tau m1 (fun e m2 => rd d e m2 Q) Ex) Ex
theorem lift_op {r : R2} {rd : RD2} {ta tb : TD} (o : Op2 X.K r rd) : ∀ st H Q, tL X.K E (dOp rd ta tb) st H Q → tOp r (tL X.K E ta) (tL X.K E tb) st H Q := by
  rintro st H Qv ⟨tau, m, Q, Ex, rp, h, k, x⟩
  refine ⟨tau, m, _, Ex, rp, h, fun v d H1 m1 a1 f1 dv1 h1 => ?_, x⟩
  refine ⟨tau, m1, _, Ex, rp.step a1 f1, h1, fun w e H2 m2 a2 f2 dv2 h2 => ?_, x.step f1⟩
  exact o v w d e H2 m2 Q Qv a2 (dv1.mono f2.same) dv2 h2 fun v' d' H' m' a3 f3 => k v' d' H' m' a3 ((f1.trans f2).trans f3)
theorem de_op {a b : Expr} {op : Operator} {pos : Pos} {r : R2} {rd : RD2} {ta tb : TD} (ho : OpR X (binaryOp op) r) (o : Op2 X.K r rd) (ha : PE X a (tL X.K E ta)) (hb : PE X b (tL X.K E tb)) : PE X (.BinOp a op b pos) (tL X.K E (dOp rd ta tb)) :=
  pe_imp (pe_op ho ha hb) (lift_op o)
theorem de_cmp {a b : Expr} {op : CmpOp} {pos : Pos} {r : R2} {rd : RD2} {ta tb : TD} (ho : OpR X (compareOp op) r) (o : Op2 X.K r rd) (ha : PE X a (tL X.K E ta)) (hb : PE X b (tL X.K E tb)) (hm : behindInMarks op b = false) : PE X (.Compare a [op] [b] pos) (tL X.K E (dOp rd ta tb)) :=
  pe_imp (pe_cmpR ho ha hb hm) (lift_op o)
/-- the answer is a bool -/
def dB (t : TD) : TDT := fun tau m Q Ex => t tau m (fun d m1 => ∃ b, d = .bl b ∧ Q b m1) Ex
theorem dt_val {e : Expr} {t : TD} (h : PE X e (tL X.K E t)) (he : ∀ whole, isTrue e X.env whole = (do let v ← whole; standAt e.pos; holding [v] (truthy v)) := by intro _; rfl) : PT X e (tLT X.K E (dB t)) :=
  pt_imp (pt_val h he) fun st H Qv ⟨tau, m, Q, Ex, rp, q, k, x⟩ => ⟨tau, m, _, Ex, rp, q, fun v d H1 m1 a1 f1 dv1 h1 => by
    obtain ⟨b, rfl, hb⟩ := h1
    cases dv1
    exact ⟨b, rfl, k b H1 m1 a1 f1 hb⟩, x⟩
theorem dt_cmp {a b : Expr} {op : CmpOp} {pos : Pos} {r : R2} {rd : RD2} {ta tb : TD} (ho : OpR X (compareOp op) r) (o : Op2 X.K r rd) (ha : PE X a (tL X.K E ta)) (hb : PE X b (tL X.K E tb)) (hm : behindInMarks op b = false) : PT X (.Compare a [op] [b] pos) (tLT X.K E (dB (dOp rd ta tb))) :=
  pt_imp (pt_cmpR ho ha hb hm) fun st H Qv ⟨tau, m, Q, Ex, rp, q, k, x⟩ => lift_op o _ _ _ ⟨tau, m, _, Ex, rp, q, fun v d H1 m1 a1 f1 dv1 h1 => by
    obtain ⟨b, rfl, hb⟩ := h1
    cases dv1
    exact ⟨b, rfl, k b H1 m1 a1 f1 hb⟩, x⟩
def dAnd (t u : TDT) : TDT := fun tau m Q Ex => t tau m (fun b m1 => if b = true then u tau m1 Q Ex else Q false m1) Ex
def dOr (t u : TDT) : TDT := fun tau m Q Ex => t tau m (fun b m1 => if b = true then Q true m1 else u tau m1 Q Ex) Ex
def dNot (t : TDT) : TDT := fun tau m Q Ex => t tau m (fun b m1 => Q (!b) m1) Ex
theorem dw_and1 {a : Expr} {pos : Pos} {t : TDT} (ha : PT X a (tLT X.K E t)) : PW X (.BoolOp .And [a] pos) (tLT X.K E t) := pw_and1 ha
theorem dw_or1 {a : Expr} {pos : Pos} {t : TDT} (ha : PT X a (tLT X.K E t)) : PW X (.BoolOp .Or [a] pos) (tLT X.K E t) := pw_or1 ha
theorem dw_and {a b : Expr} {rest : List Expr} {pos : Pos} {t u : TDT} (ha : PT X a (tLT X.K E t)) (hb : PW X (.BoolOp .And (b :: rest) pos) (tLT X.K E u)) : PW X (.BoolOp .And (a :: b :: rest) pos) (tLT X.K E (dAnd t u)) :=
  pw_imp (pw_and ha hb) fun st H Qv ⟨tau, m, Q, Ex, rp, q, k, x⟩ => ⟨tau, m, _, Ex, rp, q, fun b H1 m1 a1 f1 h1 => by
    cases b
    · exact k false H1 m1 a1 f1 h1
    · exact ⟨tau, m1, Q, Ex, rp.step a1 f1, h1, fun b2 H2 m2 a2 f2 h2 => k b2 H2 m2 a2 (f1.trans f2) h2, x.step f1⟩, x⟩
theorem dw_or {a b : Expr} {rest : List Expr} {pos : Pos} {t u : TDT} (ha : PT X a (tLT X.K E t)) (hb : PW X (.BoolOp .Or (b :: rest) pos) (tLT X.K E u)) : PW X (.BoolOp .Or (a :: b :: rest) pos) (tLT X.K E (dOr t u)) :=
  pw_imp (pw_or ha hb) fun st H Qv ⟨tau, m, Q, Ex, rp, q, k, x⟩ => ⟨tau, m, _, Ex, rp, q, fun b H1 m1 a1 f1 h1 => by
    cases b
    · exact ⟨tau, m1, Q, Ex, rp.step a1 f1, h1, fun b2 H2 m2 a2 f2 h2 => k b2 H2 m2 a2 (f1.trans f2) h2, x.step f1⟩
    · exact k true H1 m1 a1 f1 h1, x⟩
theorem dt_not {a : Expr} {pos : Pos} {t : TDT} (ha : PT X a (tLT X.K E t)) : PT X (.UnaryOp .Not a pos) (tLT X.K E (dNot t)) :=
  pt_imp (pt_not ha) fun st H Qv ⟨tau, m, Q, Ex, rp, q, k, x⟩ => ⟨tau, m, _, Ex, rp, q, fun b H1 m1 a1 f1 h1 => k (!b) H1 m1 a1 f1 h1, x⟩
/-- and, or, not as values: all but the last are True or False -/
def dAndV (t : TD) (u : TD) : TD := fun tau m Q Ex => t tau m (fun d m1 => ∃ b, d = .bl b ∧ if b = true then u tau m1 Q Ex else Q (.bl false) m1) Ex
def dOrV (t : TD) (u : TD) : TD := fun tau m Q Ex => t tau m (fun d m1 => ∃ b, d = .bl b ∧ if b = true then Q (.bl true) m1 else u tau m1 Q Ex) Ex
def dNotV (t : TD) : TD := fun tau m Q Ex => t tau m (fun d m1 => ∃ b, d = .bl b ∧ Q (.bl (!b)) m1) Ex
theorem de_one {op} {a : Expr} {pos : Pos} {t : TD} (h : PE X a (tL X.K E t)) : PE X (.BoolOp op [a] pos) (tL X.K E t) := pe_one h
theorem de_and {a b : Expr} {rest : List Expr} {pos : Pos} {t u : TD} (ha : PE X a (tL X.K E t)) (hb : PE X (.BoolOp .And (b :: rest) pos) (tL X.K E u)) : PE X (.BoolOp .And (a :: b :: rest) pos) (tL X.K E (dAndV t u)) :=
  pe_imp (pe_and ha hb) fun st H Qv ⟨tau, m, Q, Ex, rp, q, k, x⟩ => ⟨tau, m, _, Ex, rp, q, fun v d H1 m1 a1 f1 dv1 h1 => by
    obtain ⟨b, rfl, hb⟩ := h1
    cases dv1
    refine ⟨b, rfl, ?_⟩
    cases b
    · exact k _ _ H1 m1 a1 f1 (.bl false) hb
    · exact ⟨tau, m1, Q, Ex, rp.step a1 f1, hb, fun v d H2 m2 a2 f2 dv2 h2 => k v d H2 m2 a2 (f1.trans f2) dv2 h2, x.step f1⟩, x⟩
theorem de_or {a b : Expr} {rest : List Expr} {pos : Pos} {t u : TD} (ha : PE X a (tL X.K E t)) (hb : PE X (.BoolOp .Or (b :: rest) pos) (tL X.K E u)) : PE X (.BoolOp .Or (a :: b :: rest) pos) (tL X.K E (dOrV t u)) :=
  pe_imp (pe_or ha hb) fun st H Qv ⟨tau, m, Q, Ex, rp, q, k, x⟩ => ⟨tau, m, _, Ex, rp, q, fun v d H1 m1 a1 f1 dv1 h1 => by
    obtain ⟨b, rfl, hb⟩ := h1
    cases dv1
    refine ⟨b, rfl, ?_⟩
    cases b
    · exact ⟨tau, m1, Q, Ex, rp.step a1 f1, hb, fun v d H2 m2 a2 f2 dv2 h2 => k v d H2 m2 a2 (f1.trans f2) dv2 h2, x.step f1⟩
    · exact k _ _ H1 m1 a1 f1 (.bl true) hb, x⟩
theorem de_not {a : Expr} {pos : Pos} {t : TD} (ha : PE X a (tL X.K E t)) : PE X (.UnaryOp .Not a pos) (tL X.K E (dNotV t)) :=
  pe_imp (pe_not ha) fun st H Qv ⟨tau, m, Q, Ex, rp, q, k, x⟩ => ⟨tau, m, _, Ex, rp, q, fun v d H1 m1 a1 f1 dv1 h1 => by
    obtain ⟨b, rfl, hb⟩ := h1
    cases dv1
    exact ⟨b, rfl, k _ _ H1 m1 a1 f1 (.bl _) hb⟩, x⟩
def dIf (c : TDT) (t u : TD) : TD := fun tau m Q Ex => c tau m (fun b m1 => if b = true then t tau m1 Q Ex else u tau m1 Q Ex) Ex
theorem de_if {c a b : Expr} {pos : Pos} {tc : TDT} {t u : TD} (hc : PT X c (tLT X.K E tc)) (ha : PE X a (tL X.K E t)) (hb : PE X b (tL X.K E u)) : PE X (.IfExp c a b pos) (tL X.K E (dIf tc t u)) :=
  pe_imp (pe_ifExp hc ha hb) fun st H Qv ⟨tau, m, Q, Ex, rp, q, k, x⟩ => ⟨tau, m, _, Ex, rp, q, fun b H1 m1 a1 f1 h1 => by
    cases b
    · exact ⟨tau, m1, Q, Ex, rp.step a1 f1, h1, fun v d H2 m2 a2 f2 dv2 h2 => k v d H2 m2 a2 (f1.trans f2) dv2 h2, x.step f1⟩
    · exact ⟨tau, m1, Q, Ex, rp.step a1 f1, h1, fun v d H2 m2 a2 f2 dv2 h2 => k v d H2 m2 a2 (f1.trans f2) dv2 h2, x.step f1⟩, x⟩
/-! ### arguments, displays -/
def dNil : TDA := fun _ m Q _ => Q [] m
def dCons (t : TD) (u : TDA) : TDA := fun tau m Q Ex => t tau m (fun d m1 => u tau m1 (fun ds m2 => Q (d :: ds) m2) Ex) Ex
theorem da_nil : PA X [] (tLA X.K E dNil) := pa_imp pa_nil fun st H Qv ⟨tau, m, Q, Ex, rp, q, k, x⟩ => k [] [] H m rp.mu .refl .nil q
theorem da_cons {e : Expr} {es : List Expr} {t : TD} {u : TDA} (ha : PE X e (tL X.K E t)) (hr : PA X es (tLA X.K E u)) (hs : starEach (e :: es) X.env = (false, eval e X.env) :: starEach es X.env := by rfl) : PA X (e :: es) (tLA X.K E (dCons t u)) :=
  pa_imp (pa_cons ha hr hs) fun st H Qv ⟨tau, m, Q, Ex, rp, q, k, x⟩ => ⟨tau, m, _, Ex, rp, q, fun v d H1 m1 a1 f1 dv1 h1 =>
    ⟨tau, m1, _, Ex, rp.step a1 f1, h1, fun vs ds H2 m2 a2 f2 dv2 h2 => k _ _ H2 m2 a2 (f1.trans f2) (.cons (dv1.mono f2.same) dv2) h2, x.step f1⟩, x⟩
/-- a new object that is frozen at once -/
theorem Fr.new {m : Mu} {H : Hp} {p : Addr} {o : HO} (n : H p = none) : Fr m H m (upd H p o) := fun b u h e => ⟨h, by rw [upd_ne (ne_of_none e n)]; exact e⟩
theorem MuOk.fresh {K : PySem.W.Frag} {m : Mu} {H : Hp} (a : MuOk K m H) {p : Addr} (n : H p = none) : m p = none := by
  cases e : m p with
  | none => rfl
  | some o =>
    obtain ⟨x, hx⟩ := (a p o e).there
    rw [n] at hx; cases hx
theorem MuOk.froz {K : PySem.W.Frag} {m : Mu} {H : Hp} (a : MuOk K m H) {p : Addr} {o : HO} (n : H p = none) : MuOk K m (upd H p o) := fun q x e => by
  have hq : q ≠ p := fun z => by
    rw [z, a.fresh n] at e; cases e
  rw [upd_ne hq]
  exact (a q x e).mono (Fr.new n).same
/-- a new object in the store -/
theorem Fr.newM {m : Mu} {H : Hp} {p : Addr} {o : HO} {x : MO} (n : H p = none) : Fr m H (updM m p x) (upd H p o) := fun b u h e => by
  have hb : b ≠ p := ne_of_none e n
  exact ⟨by rw [updM_ne hb]; exact h, by rw [upd_ne hb]; exact e⟩
theorem hid_newM {m : Mu} {H : Hp} {p : Addr} {o : HO} {x : MO} (n : H p = none) : Same (hid m H) (hid (updM m p x) (upd H p o)) := (Fr.newM n).same
theorem MuOk.newM {K : PySem.W.Frag} {m : Mu} {H : Hp} (a : MuOk K m H) {p : Addr} {o : HO} {x : MO} (n : H p = none) (h : MOk K (hid m H) (some o) x) : MuOk K (updM m p x) (upd H p o) := fun q y e => by
  by_cases z : q = p
  · subst z
    rw [updM_same] at e; cases e
    rw [upd_same]
    exact h.mono (hid_newM n)
  · rw [updM_ne z] at e
    rw [upd_ne z]
    exact (a q y e).mono (hid_newM n)
/-- a store into an object of the store -/
theorem hid_setM {m : Mu} {H : Hp} {p : Addr} {o : HO} {x y : MO} (e : m p = some y) : hid (updM m p x) (upd H p o) = hid m H := by
  funext b
  by_cases z : b = p
  · subst z; rw [hid_some e, hid_some updM_same]
  · unfold hid; rw [updM_ne z, upd_ne z]
theorem Fr.setM {m : Mu} {H : Hp} {p : Addr} {o : HO} {x y : MO} (e : m p = some y) : Fr m H (updM m p x) (upd H p o) := fun b u h q => by
  have z : b ≠ p := fun z => by rw [z, e] at h; cases h
  exact ⟨by rw [updM_ne z]; exact h, by rw [upd_ne z]; exact q⟩
theorem MuOk.setM {K : PySem.W.Frag} {m : Mu} {H : Hp} (a : MuOk K m H) {p : Addr} {o : HO} {x y : MO} (e : m p = some y) (h : MOk K (hid m H) (some o) x) : MuOk K (updM m p x) (upd H p o) := fun q z f => by
  rw [hid_setM e]
  by_cases c : q = p
  · subst c
    rw [updM_same] at f; cases f
    rw [upd_same]; exact h
  · rw [updM_ne c] at f
    rw [upd_ne c]
    exact a q z f
theorem hid_at {m : Mu} {H : Hp} {p : Addr} {o : HO} (a : m p = none) : hid m (upd H p o) p = some o := by rw [hid_none a, upd_same]
def dTup (t : TDA) : TD := fun tau m Q Ex => t tau m (fun ds m1 => ds.length ≤ sizeLine ∧ Q (.tup ds) m1) Ex
def dLst (t : TDA) : TD := fun tau m Q Ex => t tau m (fun ds m1 => ds.length ≤ sizeLine ∧ Q (.lst ds) m1) Ex
def dLstM (t : TDA) : TD := fun tau m Q Ex => t tau m (fun ds m1 => ds.length ≤ sizeLine ∧ ∀ p, m1 p = none → Q (.ref p) (updM m1 p (.lst ds))) Ex
theorem de_tup {es : List Expr} {x1} {pos : Pos} {t : TDA} (h : PA X es (tLA X.K E t)) : PE X (.Tuple es x1 pos) (tL X.K E (dTup t)) :=
  pe_imp (pe_tup h) fun st H Qv ⟨tau, m, Q, Ex, rp, q, k, x⟩ => ⟨tau, m, _, Ex, rp, q, fun vs ds H1 m1 a1 f1 dv1 h1 =>
    ⟨by rw [dv1.length]; exact h1.1, fun p n => k _ _ _ m1 (a1.froz n) (f1.trans (.new n)) (.tup (.inl (.inl (hid_at (a1.fresh n)))) (by rw [dv1.length]; exact h1.1) (dv1.mono (Fr.new n).same)) h1.2⟩, x⟩
theorem de_lst {es : List Expr} {pos : Pos} {t : TDA} (h : PA X es (tLA X.K E t)) : PE X (.List es pos) (tL X.K E (dLst t)) :=
  pe_imp (pe_lst h) fun st H Qv ⟨tau, m, Q, Ex, rp, q, k, x⟩ => ⟨tau, m, _, Ex, rp, q, fun vs ds H1 m1 a1 f1 dv1 h1 =>
    ⟨by rw [dv1.length]; exact h1.1, fun p n => k _ _ _ m1 (a1.froz n) (f1.trans (.new n)) (.lst (hid_at (a1.fresh n)) (by rw [dv1.length]; exact h1.1) (dv1.mono (Fr.new n).same)) h1.2⟩, x⟩
theorem de_lstM {es : List Expr} {pos : Pos} {t : TDA} (h : PA X es (tLA X.K E t)) : PE X (.List es pos) (tL X.K E (dLstM t)) :=
  pe_imp (pe_lst h) fun st H Qv ⟨tau, m, Q, Ex, rp, q, k, x⟩ => ⟨tau, m, _, Ex, rp, q, fun vs ds H1 m1 a1 f1 dv1 h1 =>
    ⟨by rw [dv1.length]; exact h1.1, fun p n => k _ _ _ _ (a1.newM (x := .lst ds) n ⟨vs, rfl, by rw [dv1.length]; exact h1.1, dv1⟩) (f1.trans (.newM n)) (.ref p) (h1.2 p (a1.fresh n))⟩, x⟩
end
end DL
/-! DL2: statements, targets, loops, comprehensions, calls. -/
namespace DL
open PySem PySem.Spec PyProof.Rows L2
structure DEnds where
  nx : DEnv → Mu → Prop
  rt : DQ
  ex : DX := fun _ _ _ => False
  bk : DEnv → Mu → Prop := fun _ _ => False
  ct : DEnv → Mu → Prop := fun _ _ => False
abbrev TDS := DEnds → DEnv → Mu → Prop
structure Lk (K : PySem.W.Frag) (E : XK) (m : Mu) (H : Hp) (DD : DEnds) (D : Ends) : Prop where
  nx : ∀ st' H' tau' m', Rp K m' H' st' tau' → Fr m H m' H' → DD.nx tau' m' → D.nx st' H'
  rt : ∀ v d H' m', MuOk K m' H' → Fr m H m' H' → Dv K (hid m' H') v d → DD.rt d m' → D.rt v H'
  bk : ∀ st' H' tau' m', Rp K m' H' st' tau' → Fr m H m' H' → DD.bk tau' m' → D.bk st' H'
  ct : ∀ st' H' tau' m', Rp K m' H' st' tau' → Fr m H m' H' → DD.ct tau' m' → D.ct st' H'
  ex : XOk K E m H DD.ex
theorem Lk.step {K : PySem.W.Frag} {E : XK} {m m1 : Mu} {H H1 : Hp} {DD : DEnds} {D : Ends} (l : Lk K E m H DD D) (f : Fr m H m1 H1) : Lk K E m1 H1 DD D :=
  ⟨fun a b c d r g => l.nx a b c d r (f.trans g), fun a b c d r g => l.rt a b c d r (f.trans g), fun a b c d r g => l.bk a b c d r (f.trans g), fun a b c d r g => l.ct a b c d r (f.trans g), l.ex.step f⟩
def tLS (K : PySem.W.Frag) (E : XK) (t : TDS) : TS := fun D st H => ∃ (tau : DEnv) (m : Mu) (DD : DEnds), Rp K m H st tau ∧ t DD tau m ∧ Lk K E m H DD D
section
variable {X : Cx} {E : XK}
def dNext : TDS := fun D tau m => D.nx tau m
def dSeq (t u : TDS) : TDS := fun D tau m => t { D with nx := u D } tau m
theorem dss_nil : PSs X [] (tLS X.K E dNext) := pss_imp pss_nil fun D st H ⟨tau, m, DD, rp, h, l⟩ => l.nx _ _ _ _ rp .refl h
theorem dss_cons {s : Stmt} {ss : List Stmt} {t u : TDS} (h1 : PS X s (tLS X.K E t)) (h2 : PSs X ss (tLS X.K E u)) : PSs X (s :: ss) (tLS X.K E (dSeq t u)) := pss_imp (pss_cons h1 h2) fun D st H ⟨tau, m, DD, rp, h, l⟩ =>
  ⟨tau, m, _, rp, h, ⟨fun st' H' tau' m' rp' f' h' => ⟨tau', m', DD, rp', h', l.step f'⟩, l.rt, l.bk, l.ct, l.ex⟩⟩
theorem dss_one {s : Stmt} {t : TDS} (h1 : PS X s (tLS X.K E t)) : PSs X [s] (tLS X.K E t) := pss_one h1
def dBreak : TDS := fun D tau m => D.bk tau m
def dCont : TDS := fun D tau m => D.ct tau m
theorem ds_pass {pos} : PS X (.Pass pos) (tLS X.K E dNext) := ps_imp ps_pass fun D st H ⟨tau, m, DD, rp, h, l⟩ => l.nx _ _ _ _ rp .refl h
theorem ds_break {pos} : PS X (.Break pos) (tLS X.K E dBreak) := ps_imp ps_break fun D st H ⟨tau, m, DD, rp, h, l⟩ => l.bk _ _ _ _ rp .refl h
theorem ds_continue {pos} : PS X (.Continue pos) (tLS X.K E dCont) := ps_imp ps_continue fun D st H ⟨tau, m, DD, rp, h, l⟩ => l.ct _ _ _ _ rp .refl h
def dDrop (t : TD) : TDS := fun D tau m => t tau m (fun _ m1 => D.nx tau m1) D.ex
theorem ds_expr {e : Expr} {pos : Pos} {t : TD} (he : PE X e (tL X.K E t)) (hs : swapsWith e none pos.line X.env = pure false := by rfl) : PS X (.Expr e pos) (tLS X.K E (dDrop t)) :=
  ps_imp (ps_expr he hs) fun D st H ⟨tau, m, DD, rp, h, l⟩ => ⟨tau, m, _, DD.ex, rp, h, fun v d H' m' a f dv h' => l.nx _ _ _ _ (rp.step a f) f h', l.ex⟩
def dRet (t : TD) : TDS := fun D tau m => t tau m D.rt D.ex
theorem ds_ret {e : Expr} {pos : Pos} {t : TD} (he : PE X e (tL X.K E t)) : PS X (.Return (some e) pos) (tLS X.K E (dRet t)) :=
  ps_imp (ps_ret he) fun D st H ⟨tau, m, DD, rp, h, l⟩ => ⟨tau, m, _, DD.ex, rp, h, fun v d H' m' a f dv h' => l.rt _ _ _ _ a f dv h', l.ex⟩
def dRetN : TDS := fun D _ m => D.rt .non m
theorem ds_retN {pos} : PS X (.Return none pos) (tLS X.K E dRetN) := ps_imp ps_retN fun D st H ⟨tau, m, DD, rp, h, l⟩ => l.rt _ _ _ _ rp.mu .refl .non h
def dIfS (c : TDT) (t u : TDS) : TDS := fun D tau m => c tau m (fun b m1 => if b = true then t D tau m1 else u D tau m1) D.ex
theorem ds_if {c : Expr} {a b : List Stmt} {pos : Pos} {tc : TDT} {t u : TDS} (hc : PT X c (tLT X.K E tc)) (ha : PSs X a (tLS X.K E t)) (hb : PSs X b (tLS X.K E u)) : PS X (.If c a b pos) (tLS X.K E (dIfS tc t u)) :=
  ps_imp (ps_if hc ha hb) fun D st H ⟨tau, m, DD, rp, h, l⟩ => ⟨tau, m, _, DD.ex, rp, h, fun b H1 m1 a1 f1 h1 => by
    cases b
    · exact ⟨tau, m1, DD, rp.step a1 f1, h1, l.step f1⟩
    · exact ⟨tau, m1, DD, rp.step a1 f1, h1, l.step f1⟩, l.ex⟩
/-- ahead of a block: another view of the same state -/
def GhE (K : PySem.W.Frag) (tau : DEnv) (m : Mu) (tau' : DEnv) (m' : Mu) : Prop := ∀ H st, Rp K m H st tau → Rp K m' H st tau' ∧ Fr m H m' H
def dGh (K : PySem.W.Frag) (t : TDS) : TDS := fun D tau m => ∃ tau' m', GhE K tau m tau' m' ∧ t D tau' m'
theorem dss_gh {ss : List Stmt} {t : TDS} (h : PSs X ss (tLS X.K E t)) : PSs X ss (tLS X.K E (dGh X.K t)) := pss_imp h fun D st H ⟨tau, m, DD, rp, ⟨tau', m', g, q⟩, l⟩ => by
  obtain ⟨rp', f⟩ := g H st rp
  exact ⟨tau', m', DD, rp', q, l.step f⟩
/-! ### targets -/
abbrev TDG := D → DEnv → Mu → (DEnv → Mu → Prop) → DX → Prop
def tLG (K : PySem.W.Frag) (E : XK) (t : TDG) : TG := fun v st H Q => ∃ (d : D) (tau : DEnv) (m : Mu) (QQ : DEnv → Mu → Prop) (Ex : DX), Rp K m H st tau ∧ Dv K (hid m H) v d ∧ t d tau m QQ Ex ∧
  (∀ st' H' tau' m', Rp K m' H' st' tau' → Fr m H m' H' → QQ tau' m' → Q st' H') ∧ XOk K E m H Ex
theorem pg_imp {X : Cx} {e : Expr} {t u : TG} (h : PG X e t) (i : ∀ v st H Q, u v st H Q → t v st H Q) : PG X e u := ⟨fun pins s st H v w Q I r q => h.run pins s st H v w Q I r (i v st H Q q)⟩
def dgName (i : Nat) : TDG := fun d tau m Q _ => Q (tau.set i (some d)) m
theorem dg_name {i : Nat} {x : Str} {pos : Pos} (hN : X.N.Nodup) (hi : X.N[i]? = some x) (hx : Loc X.env.scope x) (hf : X.fn x = true ∨ X.env.scope.names.lookup x = some .local := by first | exact .inl rfl | exact .inr rfl | exact .inr (by decide +kernel)) :
    PG X (.Name x pos) (tLG X.K E (dgName i)) := pg_imp (pg_name hN hi hx hf) fun v st H Q ⟨d, tau, m, QQ, Ex, rp, dv, h, k, x⟩ => k _ _ _ _ ⟨rp.mu, rp.env.set dv i⟩ .refl h
abbrev TDGs := List D → DEnv → Mu → (DEnv → Mu → Prop) → DX → Prop
def tLGs (K : PySem.W.Frag) (E : XK) (t : TDGs) : TGs := fun v st H Q => ∃ (d : List D) (tau : DEnv) (m : Mu) (QQ : DEnv → Mu → Prop) (Ex : DX), Rp K m H st tau ∧ DvAll K (hid m H) v d ∧ t d tau m QQ Ex ∧
  (∀ st' H' tau' m', Rp K m' H' st' tau' → Fr m H m' H' → QQ tau' m' → Q st' H') ∧ XOk K E m H Ex
theorem pgs_imp {X : Cx} {e : List Expr} {t u : TGs} (h : PGs X e t) (i : ∀ v st H Q, u v st H Q → t v st H Q) : PGs X e u := ⟨fun pins s st H v w Q I r q => h.run pins s st H v w Q I r (i v st H Q q)⟩
def dgNil : TDGs
  | [], tau, m, Q, _ => Q tau m
  | _ :: _, _, _, _, _ => False
def dgCons (t : TDG) (u : TDGs) : TDGs
  | d :: r, tau, m, Q, Ex => t d tau m (fun tau' m' => u r tau' m' Q Ex) Ex
  | [], _, _, _, _ => False
theorem dgs_nil : PGs X [] (tLGs X.K E dgNil) := pgs_imp pgs_nil fun v st H Q ⟨d, tau, m, QQ, Ex, rp, dv, h, k, x⟩ => by
  cases d with
  | nil =>
    cases dv
    exact ⟨rfl, k _ _ _ _ rp .refl h⟩
  | cons _ _ => exact h.elim
theorem dgs_cons {e : Expr} {es : List Expr} {t : TDG} {u : TDGs} (h1 : PG X e (tLG X.K E t)) (h2 : PGs X es (tLGs X.K E u))
    (hs : (assignEach (e :: es) X.env).map (·.2) = assign e X.env :: (assignEach es X.env).map (·.2) := by rfl) : PGs X (e :: es) (tLGs X.K E (dgCons t u)) :=
  pgs_imp (pgs_cons h1 h2 hs) fun v st H Q ⟨d, tau, m, QQ, Ex, rp, dv, h, k, x⟩ => by
    cases dv with
    | nil => exact h.elim
    | @cons _ d0 _ r h0 hr => exact ⟨_, _, rfl, d0, tau, m, _, Ex, rp, h0, h, fun st' H' tau' m' rp' f' h' => ⟨r, tau', m', QQ, Ex, rp', hr.mono f'.same, h', fun a b c d r f => k a b c d r (f'.trans f), x.step f'⟩, x⟩
def dgTup (n : Nat) (t : TDGs) : TDG
  | .tup ds, tau, m, Q, Ex => ds.length = n ∧ t ds tau m Q Ex
  | _, _, _, _, _ => False
theorem sqt_hid {K : PySem.W.Frag} {m : Mu} {H : Hp} {a : Addr} {xs : List V} (h : SqT K (hid m H) a xs) : SqT K H a xs := by
  rcases h with (h | ⟨o, h⟩) | h
  · exact .inl (.inl (of_hid h).2)
  · exact .inl (.inr ⟨o, (of_hid h).2⟩)
  · exact .inr h
theorem sql_hid {K : PySem.W.Frag} {m : Mu} {H : Hp} {a : Addr} {xs : List V} (h : SqL K (hid m H) a xs) : SqL K H a xs := hid_same.seq h
theorem dg_tup {es : List Expr} {k : Nat} {n : Nat} {pos : Pos} {t : TDGs} (h0 : PG X (.Tuple es k pos) (gTup X.K n (tLGs X.K E t))) : PG X (.Tuple es k pos) (tLG X.K E (dgTup n t)) :=
  pg_imp h0 fun v st H Q ⟨d, tau, m, QQ, Ex, rp, dv, h, k, x⟩ => by
    cases dv with
    | @tup _ _ ds hs _ hr =>
    obtain ⟨hl, h⟩ := h
    exact ⟨_, _, rfl, sqt_hid hs, hr.length.trans hl, ds, tau, m, QQ, Ex, rp, hr, h, k, x⟩
    | _ => exact h.elim
def dAsg (t : TD) (g : TDG) : TDS := fun D tau m => t tau m (fun d m1 => g d tau m1 D.nx D.ex) D.ex
theorem lift_asg {t : TD} {g : TDG} : ∀ D st H, tLS X.K E (dAsg t g) D st H → tAsg (tL X.K E t) (tLG X.K E g) D st H := fun D st H ⟨tau, m, DD, rp, h, l⟩ =>
  ⟨tau, m, _, DD.ex, rp, h, fun v d H' m' a f dv h' => ⟨d, tau, m', DD.nx, DD.ex, rp.step a f, dv, h', fun st' H' tau' m' r g => l.nx st' H' tau' m' r (f.trans g), l.ex.step f⟩, l.ex⟩
theorem ds_asg {tg e : Expr} {pos : Pos} {t : TD} {g : TDG} (he : PE X e (tL X.K E t)) (hg : PG X tg (tLG X.K E g)) (hs : swapsWithSole [tg] e pos.line X.env = pure false := by rfl) (hw : swappedStores [tg] e X.env = pure none := by rfl)
    (h1 : (assignEach [tg] X.env).map (·.2) = [assign tg X.env] := by rfl) : PS X (.Assign [tg] e pos) (tLS X.K E (dAsg t g)) := ps_imp (ps_asg he hg hs hw h1) lift_asg
def dSet (i : Nat) (t : TD) : TDS := fun D tau m => t tau m (fun d m1 => D.nx (tau.set i (some d)) m1) D.ex
theorem ds_set {i : Nat} {x : Str} {e : Expr} {t : TD} {pos pos' : Pos} (hN : X.N.Nodup) (hi : X.N[i]? = some x) (hx : Loc X.env.scope x) (he : PE X e (tL X.K E t)) (hs : swapsWith e (some (.Name x pos')) pos.line X.env = pure false := by rfl)
    (hf : X.fn x = true ∨ X.env.scope.names.lookup x = some .local := by first | exact .inl rfl | exact .inr rfl | exact .inr (by decide +kernel)) : PS X (.Assign [.Name x pos'] e pos) (tLS X.K E (dSet i t)) :=
  ps_imp (ps_set hN hi hx he hs hf) fun D st H ⟨tau, m, DD, rp, h, l⟩ =>
  ⟨tau, m, _, DD.ex, rp, h, fun v d H' m' a f dv h' => l.nx _ _ _ _ ⟨a, ((rp.step a f).env).set dv i⟩ f h', l.ex⟩
/-! ### loops -/
def dWhile (c : TDT) (tb : TDS) : TDS := fun D tau m => ∃ Pv : Nat → DEnv → Mu → Prop, (∃ n, Pv n tau m) ∧ ∀ n tau m, Pv n tau m →
  c tau m (fun b m1 => if b = true then tb { D with nx := fun tau' m' => ∃ n', n' < n ∧ Pv n' tau' m', ct := fun tau' m' => ∃ n', n' < n ∧ Pv n' tau' m', bk := D.nx } tau m1 else D.nx tau m1) D.ex
theorem ds_while {c : Expr} {body : List Stmt} {pos : Pos} {tc : TDT} {tb : TDS} (hp : PassesOwn (model X.prog X.w) X.A X.env X.xe) (hc : PT X c (tLT X.K E tc)) (hb : PSs X body (tLS X.K E tb)) : PS X (.While c body [] pos) (tLS X.K E (dWhile tc tb)) :=
  ps_imp (ps_while hp hc hb) fun D st H ⟨tau, m, DD, rp, ⟨Pv, ⟨n, p0⟩, turn⟩, l⟩ => by
    refine ⟨fun n st' H' => ∃ tau' m', Rp X.K m' H' st' tau' ∧ Fr m H m' H' ∧ Pv n tau' m', ⟨n, tau, m, rp, .refl, p0⟩, ?_⟩
    rintro n st1 H1 ⟨tau1, m1, rp1, f1, p1⟩
    refine ⟨tau1, m1, _, DD.ex, rp1, turn n tau1 m1 p1, fun b H2 m2 a2 f2 h2 => ?_, l.ex.step f1⟩
    cases b
    · exact l.nx _ _ _ _ (rp1.step a2 f2) (f1.trans f2) h2
    · refine ⟨fun st' H' => ∃ n', n' < n ∧ ∃ tau' m', Rp X.K m' H' st' tau' ∧ Fr m H m' H' ∧ Pv n' tau' m', fun st' H' ⟨n', hn, q⟩ => ⟨n', hn, q⟩, ?_⟩
      exact ⟨tau1, m2, _, rp1.step a2 f2, h2, ⟨fun st' H' tau' m' r g ⟨n', hn, q⟩ => ⟨n', hn, tau', m', r, (f1.trans f2).trans g, q⟩, fun a b c d r g => l.rt a b c d r ((f1.trans f2).trans g),
        fun a b c d r g => l.nx a b c d r ((f1.trans f2).trans g), fun st' H' tau' m' r g ⟨n', hn, q⟩ => ⟨n', hn, tau', m', r, (f1.trans f2).trans g, q⟩, l.ex.step (f1.trans f2)⟩⟩
/-- J walks items while keep holds of the store -/
structure DWalk (K : PySem.W.Frag) (J : It) (items : List D) (keep : Mu → Prop) (m0 : Mu) (H0 : Hp) : Prop where
  go : ∀ i H m, i < items.length → MuOk K m H → Fr m0 H0 m H → keep m → J.go i H
  stop : ∀ H m, MuOk K m H → Fr m0 H0 m H → keep m → J.stop items.length H
  yld : ∀ i H m x H', i < items.length → MuOk K m H → Fr m0 H0 m H → keep m → J.yld i H x H' → ∃ d, items[i]? = some d ∧ MuOk K m H' ∧ Fr m H m H' ∧ Dv K (hid m H') x d
abbrev TDI := DEnv → Mu → (List D → (Mu → Prop) → Mu → Prop) → DX → Prop
def IOk (K : PySem.W.Frag) (E : XK) (wi : TI) (ti : TDI) : Prop := ∀ st H R tau m QQ Ex, Rp K m H st tau → ti tau m QQ Ex → XOk K E m H Ex →
  (∀ J H1 m1 items keep, MuOk K m1 H1 → Fr m H m1 H1 → DWalk K J items keep m1 H1 → QQ items keep m1 → R J H1) → wi st H R
/-- a target's reading and the same over trees; vs: the slots that it may write -/
def GOk (K : PySem.W.Frag) (g : TG) (gd : TDG) (vs : List Nat) : Prop := ∀ v d st tau m H QQ (Q : L2.St → Hp → Prop), Rp K m H st tau → Dv K (hid m H) v d → gd d tau m QQ (fun _ _ _ => False) →
  (∀ st' H' tau' m', wipe st' vs = wipe st vs → Rp K m' H' st' tau' → Fr m H m' H' → QQ tau' m' → Q st' H') → g v st H Q
def GsOk (K : PySem.W.Frag) (g : TGs) (gd : TDGs) (vs : List Nat) : Prop := ∀ v d st tau m H QQ (Q : L2.St → Hp → Prop), Rp K m H st tau → DvAll K (hid m H) v d → gd d tau m QQ (fun _ _ _ => False) →
  (∀ st' H' tau' m', wipe st' vs = wipe st vs → Rp K m' H' st' tau' → Fr m H m' H' → QQ tau' m' → Q st' H') → g v st H Q
theorem wipe_in {st : L2.St} {i : Nat} {x : Option V} : ∀ {vs : List Nat}, i ∈ vs → wipe (st.set i x) vs = wipe st vs
  | v :: vs, h => by
    show (wipe (st.set i x) vs).set v none = (wipe st vs).set v none
    by_cases hi : i ∈ vs
    · rw [wipe_in hi]
    · have e : i = v := by
        rcases List.mem_cons.mp h with h | h
        · exact h
        · exact absurd h hi
      subst e
      have q : ∀ us : List Nat, i ∉ us → wipe (st.set i x) us = (wipe st us).set i x := by
        intro us
        induction us with
        | nil => intro _; rfl
        | cons u us ih =>
          intro hu
          have h1 : i ≠ u := fun z => hu (by rw [z]; exact List.mem_cons_self)
          have h2 : i ∉ us := fun z => hu (List.mem_cons_of_mem _ z)
          show (wipe (st.set i x) us).set u none = ((wipe st us).set u none).set i x
          rw [ih h2, List.set_comm _ _ h1]
      rw [q vs hi, List.set_set]
theorem GOk.name {K : PySem.W.Frag} {i : Nat} {vs : List Nat} (h : i ∈ vs) : GOk K (gName i) (dgName i) vs := fun v d st tau m H QQ Q rp dv q k => k _ _ _ _ (wipe_in h) ⟨rp.mu, rp.env.set dv i⟩ .refl q
theorem GsOk.nil {K : PySem.W.Frag} {vs : List Nat} : GsOk K gNil dgNil vs := fun v d st tau m H QQ Q rp dv q k => by
  cases dv with
  | nil => exact ⟨rfl, k _ _ _ _ rfl rp .refl q⟩
  | cons _ _ => exact q.elim
theorem GsOk.cons {K : PySem.W.Frag} {g : TG} {gd : TDG} {gs : TGs} {gds : TDGs} {vs : List Nat} (h1 : GOk K g gd vs) (h2 : GsOk K gs gds vs) : GsOk K (gCons g gs) (dgCons gd gds) vs := fun v d st tau m H QQ Q rp dv q k => by
  cases dv with
  | nil => exact q.elim
  | @cons _ d0 _ r h0 hr => exact ⟨_, _, rfl, h1 _ d0 st tau m H _ _ rp h0 q fun st' H' tau' m' w' rp' f' q' => h2 _ r st' tau' m' H' QQ Q rp' (hr.mono f'.same) q' fun a b c e w x f => k a b c e (w.trans w') x (f'.trans f)⟩
theorem GOk.tup {K : PySem.W.Frag} {g : TGs} {gd : TDGs} {vs : List Nat} {n : Nat} (h : GsOk K g gd vs) : GOk K (gTup K n g) (dgTup n gd) vs := fun v d st tau m H QQ Q rp dv q k => by
  cases dv with
  | @tup _ _ ds hs _ hr =>
    obtain ⟨hl, q⟩ := q
    exact ⟨_, _, rfl, sqt_hid hs, hr.length.trans hl, h _ ds st tau m H QQ Q rp hr q k⟩
  | _ => exact q.elim
def NX : DX := fun _ _ _ => False
theorem xok_nx {K : PySem.W.Frag} {E : XK} {m : Mu} {H : Hp} : XOk K E m H NX := fun _ _ _ _ _ _ _ _ z => z.elim
def dFor (ti : TDI) (gd : TDG) (tb : TDS) : TDS := fun D tau m => ti tau m (fun items keep m1 => ∃ Pv : Nat → DEnv → Mu → Prop, Pv 0 tau m1 ∧ (∀ i tau m, i ≤ items.length → Pv i tau m → keep m) ∧
  (∀ i x tau m, items[i]? = some x → Pv i tau m → gd x tau m (fun tau2 m2 => tb { D with nx := Pv (i + 1), ct := Pv (i + 1), bk := D.nx } tau2 m2) NX) ∧ (∀ tau m, Pv items.length tau m → D.nx tau m)) D.ex
theorem ds_for {tg iter : Expr} {body : List Stmt} {wi : TI} {ti : TDI} {g : TG} {gd : TDG} {tb : TDS} {pos : Pos} (vs : List Nat) (hp : PassesOwn (model X.prog X.w) X.A X.env X.xe) (hc : X.calm = true) (hi : PI X tg iter wi) (io : IOk X.K E wi ti) (hg : PG X tg g) (go : GOk X.K g gd vs) (hb : PSs X body (tLS X.K E tb))
    (hs : ∀ x, foldedSetIterable iter X.env x = pure x := by intro _; rfl) : PS X (.For tg iter body [] pos) (tLS X.K E (dFor ti gd tb)) :=
  ps_imp (ps_for hp hc hi hg hb hs) fun D st H ⟨tau, m, DD, rp, h, l⟩ => by
    refine io _ _ _ _ _ _ _ rp h l.ex fun J H1 m1 items keep a1 f1 wk ⟨Pv, p0, hk, hs, hd⟩ => ?_
    refine ⟨fun i n st' H' => n = items.length - i ∧ i ≤ items.length ∧ ∃ tau' m', Rp X.K m' H' st' tau' ∧ Fr m1 H1 m' H' ∧ Pv i tau' m', ⟨items.length, by simp, Nat.zero_le _, tau, m1, rp.step a1 f1, .refl, p0⟩, ?_⟩
    rintro i n st2 H2 ⟨rfl, hi, tau2, m2, rp2, f2, p2⟩
    have kp := hk i tau2 m2 hi p2
    by_cases hlt : i < items.length
    · refine .inr ⟨wk.go i H2 m2 hlt rp2.mu f2 kp, fun st' H' => ∃ tau' m', Rp X.K m' H' st' tau' ∧ Fr m1 H1 m' H' ∧ Pv (i + 1) tau' m', fun st' H' q => ⟨items.length - (i + 1), by omega, rfl, hlt, q⟩, fun x H3 y => ?_⟩
      obtain ⟨d, hd', a3, f3, dv3⟩ := wk.yld i H2 m2 x H3 hlt rp2.mu f2 kp y
      refine go x d st2 tau2 m2 H3 _ _ (rp2.step a3 f3) dv3 (hs i d tau2 m2 hd' p2) fun st4 H4 tau4 m4 _ rp4 f4 h4 => ?_
      have f34 : Fr m2 H2 m4 H4 := f3.trans f4
      exact ⟨tau4, m4, _, rp4, h4, ⟨fun a b c d r f q => ⟨c, d, r, (f2.trans f34).trans f, q⟩, fun a b c d r f => l.rt a b c d r (((f1.trans f2).trans f34).trans f),
        fun a b c d r f => l.nx a b c d r (((f1.trans f2).trans f34).trans f), fun a b c d r f q => ⟨c, d, r, (f2.trans f34).trans f, q⟩, l.ex.step ((f1.trans f2).trans f34)⟩⟩
    · have e : i = items.length := by omega
      subst e
      exact .inl ⟨wk.stop H2 m2 rp2.mu f2 kp, l.nx _ _ _ _ rp2 (f1.trans f2) (hd tau2 m2 p2)⟩
/-! ### comprehensions -/
/-- the turns over the items left; the list made so far stands at p -/
def dLcGo (gd : TDG) (tt : TDT) (te : TD) (vs : List Nat) (tau : DEnv) (keep : Mu → Prop) (p : Addr) : List D → List D → Mu → (List D → Mu → Prop) → Prop
  | [], acc, m, Q => keep m ∧ m p = some (.lst acc) ∧ Q acc m
  | x :: xs, acc, m, Q => keep m ∧ gd x (wipeD tau vs) m (fun tau2 m2 => tt tau2 m2 (fun b m3 =>
      if b = true then te tau2 m3 (fun y m4 => m4 p = some (.lst acc) ∧ acc.length < sizeLine ∧ dLcGo gd tt te vs tau keep p xs (acc ++ [y]) (updM m4 p (.lst (acc ++ [y]))) Q) NX
      else dLcGo gd tt te vs tau keep p xs acc m3 Q) NX) NX
theorem dLcGo.kept {gd : TDG} {tt : TDT} {te : TD} {vs : List Nat} {tau : DEnv} {keep : Mu → Prop} {p : Addr} {Q : List D → Mu → Prop} : ∀ {xs acc : List D} {m : Mu}, dLcGo gd tt te vs tau keep p xs acc m Q → keep m
  | [], _, _, h => h.1
  | _ :: _, _, _, h => h.1
/-- [e for x in xs if t]: frozen at once; dLcM: a new object of the store -/
def dLc (ti : TDI) (gd : TDG) (tt : TDT) (te : TD) (vs : List Nat) : TD := fun tau m Q Ex => ti tau m (fun items keep m1 => ∀ p, m1 p = none → dLcGo gd tt te vs tau keep p items [] (updM m1 p (.lst [])) fun acc m2 => Q (.lst acc) (delM m2 p)) Ex
def dLcM (ti : TDI) (gd : TDG) (tt : TDT) (te : TD) (vs : List Nat) : TD := fun tau m Q Ex => ti tau m (fun items keep m1 => ∀ p, m1 p = none → dLcGo gd tt te vs tau keep p items [] (updM m1 p (.lst [])) fun _ m2 => Q (.ref p) m2) Ex
theorem hid_del {K : PySem.W.Frag} {m : Mu} {H : Hp} (a : MuOk K m H) (p : Addr) : MuOk K (delM m p) H ∧ Fr m H (delM m p) H ∧ Same (hid m H) (hid (delM m p) H) := by
  have f : Fr m H (delM m p) H := fun b o h e => ⟨by unfold delM; split <;> first | rfl | exact h, e⟩
  refine ⟨fun q o e => ?_, f, f.same⟩
  have z : q ≠ p := fun z => by rw [z, delM_same] at e; cases e
  rw [delM_ne z] at e
  exact (a q o e).mono f.same
theorem lc_core {wi : TI} {ti : TDI} {g : TG} {gd : TDG} {tt : TDT} {te : TD} {vs : List Nat} {K : PySem.W.Frag} (io : IOk K E wi ti) (go : GOk K g gd vs) (Qr : Addr → List D → Mu → Prop) {st : L2.St} {H : Hp} {Qv : VK} {tau : DEnv} {m : Mu} {Ex : DX} (rp : Rp K m H st tau)
    (h : ti tau m (fun items keep m1 => ∀ p, m1 p = none → dLcGo gd tt te vs tau keep p items [] (updM m1 p (.lst [])) (Qr p)) Ex) (x : XOk K E m H Ex)
    (k : ∀ p acc H' m', MuOk K m' H' → Fr m H m' H' → m' p = some (.lst acc) → Qr p acc m' → Qv (.ref p) H') : tLc wi g (tLT K E0 tt) (tL K E0 te) vs st H Qv := by
  refine io _ _ _ _ _ _ _ rp h x fun J H1 m1 items keep a1 f1 wk h1 => ?_
  intro p np
  have h1 := h1 p (a1.fresh np)
  have a1' : MuOk K (updM m1 p (.lst [])) (upd H1 p (.lst [])) := a1.newM (x := .lst []) np ⟨[], rfl, Nat.zero_le _, .nil⟩
  have f1' : Fr m1 H1 (updM m1 p (.lst [])) (upd H1 p (.lst [])) := .newM np
  refine ⟨fun i n H' => n = items.length - i ∧ i ≤ items.length ∧ ∃ acc m', MuOk K m' H' ∧ Fr m1 H1 m' H' ∧ dLcGo gd tt te vs tau keep p (items.drop i) acc m' (Qr p), ⟨items.length, by simp, Nat.zero_le _, [], _, a1', f1', h1⟩, ?_⟩
  rintro i n H2 ⟨rfl, hi, acc, m2, a2, f2, h2⟩
  have kp := h2.kept
  by_cases hlt : i < items.length
  · refine .inr ⟨wk.go i H2 m2 hlt a2 f2 kp, fun H' => ∃ acc m', MuOk K m' H' ∧ Fr m1 H1 m' H' ∧ dLcGo gd tt te vs tau keep p (items.drop (i + 1)) acc m' (Qr p), fun H' q => ⟨items.length - (i + 1), by omega, rfl, hlt, q⟩, fun x H3 y => ?_⟩
    obtain ⟨d, hd', a3, f3, dv3⟩ := wk.yld i H2 m2 x H3 hlt a2 f2 kp y
    have e : items.drop i = d :: items.drop (i + 1) := by
      obtain ⟨hl, he⟩ := List.getElem?_eq_some_iff.mp hd'
      rw [← he]; exact List.drop_eq_getElem_cons hl
    rw [e] at h2
    have rp3 : Rp K m2 H3 (wipe st vs) (wipeD tau vs) := ⟨a3, (rp.env.wipe vs).mono ((f1.trans f2).trans f3).same⟩
    refine go x d _ _ m2 H3 _ _ rp3 dv3 h2.2 fun st4 H4 tau4 m4 w4 rp4 f4 h4 => ⟨?_, ?_⟩
    · rw [w4]
      have ww : ∀ (us : List Nat) (s : L2.St), (∀ u ∈ us, u ∈ vs) → wipe (wipe s us) vs = wipe s vs := by
        intro us
        induction us with
        | nil => intro s _; rfl
        | cons u us ih =>
          intro s hu
          show wipe ((wipe s us).set u none) vs = _
          rw [wipe_in (hu u List.mem_cons_self)]
          exact ih s fun z hz => hu z (List.mem_cons_of_mem _ hz)
      exact ww vs st fun _ h => h
    · have f24 : Fr m1 H1 m4 H4 := (f2.trans f3).trans f4
      refine ⟨tau4, m4, _, NX, rp4, h4, fun b H5 m5 a5 f5 h5 => ?_, xok_nx⟩
      cases b
      · exact ⟨acc, m5, a5, f24.trans f5, h5⟩
      · rw [if_pos rfl] at h5 ⊢
        refine ⟨tau4, m5, _, NX, rp4.step a5 f5, h5, fun v y H6 m6 a6 f6 dv6 ⟨e6, hl, h6⟩ => ?_, xok_nx⟩
        obtain ⟨xs, hx, _, hr⟩ := a6 p _ e6
        exact ⟨xs, hx, by rw [hr.length]; exact hl, acc ++ [y], _, a6.setM (x := .lst (acc ++ [y])) e6 ⟨_, rfl, by rw [List.length_append, hr.length]; exact hl, hr.append (.cons dv6 .nil)⟩, ((f24.trans f5).trans f6).trans (.setM e6), h6⟩
  · have e : i = items.length := by omega
    subst e
    rw [List.drop_length] at h2
    exact .inl ⟨wk.stop H2 m2 a2 f2 kp, k p acc H2 m2 a2 (f1.trans f2) h2.2.1 h2.2.2⟩
section
variable {elt tg iter : Expr} {ifs : List Expr} {scope : Scope} {own : List (Str × Nat)} {pos spos py : Pos} {wi : TI} {ti : TDI} {g : TG} {gd : TDG} {tt : TDT} {te : TD} {i : Nat} {y : Str}
theorem lift_lc (io : IOk X.K E wi ti) (go : GOk X.K g gd (own.map (·.2))) : ∀ st H Q, tL X.K E (dLc ti gd tt te (own.map (·.2))) st H Q → tLc wi g (tLT X.K E0 tt) (tL X.K E0 te) (own.map (·.2)) st H Q := fun st H Qv ⟨tau, m, Q, Ex, rp, h, k, x⟩ => by
  refine lc_core io go (fun p acc m2 => Q (.lst acc) (delM m2 p)) rp h x fun p acc H' m' a f e q => ?_
  obtain ⟨d1, d2, d3⟩ := hid_del a p
  obtain ⟨xs, hx, hl, hr⟩ := a p _ e
  exact k _ _ H' (delM m' p) d1 (f.trans d2) (.lst (by rw [hid_none delM_same]; exact hx) hl (hr.mono d3)) q
theorem lift_lcM (io : IOk X.K E wi ti) (go : GOk X.K g gd (own.map (·.2))) : ∀ st H Q, tL X.K E (dLcM ti gd tt te (own.map (·.2))) st H Q → tLc wi g (tLT X.K E0 tt) (tL X.K E0 te) (own.map (·.2)) st H Q := fun st H Qv ⟨tau, m, Q, Ex, rp, h, k, x⟩ => by
  refine lc_core io go (fun p acc m2 => Q (.ref p) m2) rp h x fun p acc H' m' a f e q => k _ _ H' m' a f (.ref p) q
def dYes : TDT := fun _ m Q _ => Q true m
theorem dts_nil {Y : Cx} : PTs Y [] (tLT Y.K E dYes) := ⟨fun pins s st H Q I ⟨tau, m, QQ, Ex, rp, h, k, x⟩ => pts_nil.run pins s st H Q I (k true H m rp.mu .refl h)⟩
theorem dts_one {Y : Cx} {c : Expr} {t : TDT} (h : PT Y c (tLT Y.K E t)) : PTs Y [c] (tLT Y.K E t) := pts_one h
theorem de_lc (hc : X.calm = true) (hN : X.N.Nodup) (hi : PI X tg iter wi) (io : IOk X.K E wi ti) (ok : BlkOk X.N X.env.scope scope own) (go : GOk X.K g gd (own.map (·.2)))
    (hg : ∀ (s : Shared) (H : Hp) (C : Addr) (cl : List (Str × Addr)) (fp : List Addr), PG (X.blk s H scope (compEnvC scope cl C X.env) fp) tg g) (ht : ∀ (s : Shared) (H : Hp) (C : Addr) (cl : List (Str × Addr)) (fp : List Addr), PTs (X.blk s H scope (compEnvC scope cl C X.env) fp) ifs (tLT X.K E0 tt))
    (he : ∀ (s : Shared) (H : Hp) (C : Addr) (cl : List (Str × Addr)) (fp : List Addr), PE (X.blk s H scope (compEnvC scope cl C X.env) fp) elt (tL X.K E0 te)) (hs : ∀ x, foldedSetIterable iter X.env x = pure x := by intro _; rfl) :
    PE X (.ListComp elt [⟨tg, iter, ifs, 0⟩] scope pos) (tL X.K E (dLc ti gd tt te (own.map (·.2)))) := pe_imp (pe_lc hc hN hi ok hg ht he hs) (lift_lc io go)
theorem de_lcM (hc : X.calm = true) (hN : X.N.Nodup) (hi : PI X tg iter wi) (io : IOk X.K E wi ti) (ok : BlkOk X.N X.env.scope scope own) (go : GOk X.K g gd (own.map (·.2)))
    (hg : ∀ (s : Shared) (H : Hp) (C : Addr) (cl : List (Str × Addr)) (fp : List Addr), PG (X.blk s H scope (compEnvC scope cl C X.env) fp) tg g) (ht : ∀ (s : Shared) (H : Hp) (C : Addr) (cl : List (Str × Addr)) (fp : List Addr), PTs (X.blk s H scope (compEnvC scope cl C X.env) fp) ifs (tLT X.K E0 tt))
    (he : ∀ (s : Shared) (H : Hp) (C : Addr) (cl : List (Str × Addr)) (fp : List Addr), PE (X.blk s H scope (compEnvC scope cl C X.env) fp) elt (tL X.K E0 te)) (hs : ∀ x, foldedSetIterable iter X.env x = pure x := by intro _; rfl) :
    PE X (.ListComp elt [⟨tg, iter, ifs, 0⟩] scope pos) (tL X.K E (dLcM ti gd tt te (own.map (·.2)))) := pe_imp (pe_lc hc hN hi ok hg ht he hs) (lift_lcM io go)
theorem lift_set {te0 : TE} {t : TD} (h : ∀ st H Q, tL X.K E t st H Q → te0 st H Q) : ∀ D st H, tLS X.K E (dSet i t) D st H → tAsg te0 (gName i) D st H := fun D st H ⟨tau, m, DD, rp, h1, l⟩ =>
  h _ _ _ ⟨tau, m, _, DD.ex, rp, h1, fun v d H' m' a f dv h' => l.nx _ _ _ _ ⟨a, ((rp.step a f).env).set dv i⟩ f h', l.ex⟩
theorem ds_setLc (hc : X.calm = true) (hN : X.N.Nodup) (hy : X.N[i]? = some y) (hyl : X.env.scope.names.lookup y = some .local)
    (hsw : swapsWith (.ListComp elt [⟨tg, iter, ifs, 0⟩] scope pos) (some (.Name y py)) spos.line X.env = pure true) (hi : PI X tg iter wi) (io : IOk X.K E wi ti) (ok : BlkOk X.N X.env.scope scope own) (go : GOk X.K g gd (own.map (·.2)))
    (hg : ∀ (s : Shared) (H : Hp) (C : Addr) (cl : List (Str × Addr)) (fp : List Addr), PG (X.blk s H scope (compEnvC scope cl C X.env) fp) tg g) (ht : ∀ (s : Shared) (H : Hp) (C : Addr) (cl : List (Str × Addr)) (fp : List Addr), PTs (X.blk s H scope (compEnvC scope cl C X.env) fp) ifs (tLT X.K E0 tt))
    (he : ∀ (s : Shared) (H : Hp) (C : Addr) (cl : List (Str × Addr)) (fp : List Addr), PE (X.blk s H scope (compEnvC scope cl C X.env) fp) elt (tL X.K E0 te)) (hs : ∀ x, foldedSetIterable iter X.env x = pure x := by intro _; rfl) :
    PS X (.Assign [.Name y py] (.ListComp elt [⟨tg, iter, ifs, 0⟩] scope pos) spos) (tLS X.K E (dSet i (dLc ti gd tt te (own.map (·.2))))) := ps_imp (ps_setLc hc hN hy hyl hsw hi ok hg ht he hs) (lift_set (lift_lc io go))
theorem ds_setLcM (hc : X.calm = true) (hN : X.N.Nodup) (hy : X.N[i]? = some y) (hyl : X.env.scope.names.lookup y = some .local)
    (hsw : swapsWith (.ListComp elt [⟨tg, iter, ifs, 0⟩] scope pos) (some (.Name y py)) spos.line X.env = pure true) (hi : PI X tg iter wi) (io : IOk X.K E wi ti) (ok : BlkOk X.N X.env.scope scope own) (go : GOk X.K g gd (own.map (·.2)))
    (hg : ∀ (s : Shared) (H : Hp) (C : Addr) (cl : List (Str × Addr)) (fp : List Addr), PG (X.blk s H scope (compEnvC scope cl C X.env) fp) tg g) (ht : ∀ (s : Shared) (H : Hp) (C : Addr) (cl : List (Str × Addr)) (fp : List Addr), PTs (X.blk s H scope (compEnvC scope cl C X.env) fp) ifs (tLT X.K E0 tt))
    (he : ∀ (s : Shared) (H : Hp) (C : Addr) (cl : List (Str × Addr)) (fp : List Addr), PE (X.blk s H scope (compEnvC scope cl C X.env) fp) elt (tL X.K E0 te)) (hs : ∀ x, foldedSetIterable iter X.env x = pure x := by intro _; rfl) :
    PS X (.Assign [.Name y py] (.ListComp elt [⟨tg, iter, ifs, 0⟩] scope pos) spos) (tLS X.K E (dSet i (dLcM ti gd tt te (own.map (·.2))))) := ps_imp (ps_setLc hc hN hy hyl hsw hi ok hg ht he hs) (lift_set (lift_lcM io go))
end
/-! ### calls of defs -/
abbrev DSp := List D → Mu → DQ → DX → Prop
def spD (K : PySem.W.Frag) (sp : DSp) : Sp := fun vs H Qv E => ∃ ds m Q Ex, MuOk K m H ∧ DvAll K (hid m H) vs ds ∧ sp ds m Q Ex ∧ (∀ v d H' m', MuOk K m' H' → Fr m H m' H' → Dv K (hid m' H') v d → Q d m' → Qv v H') ∧ XOk K E m H Ex
def dCall (sp : DSp) (dds : List D) (t : TDA) : TD := fun tau m Q Ex => t tau m (fun ds m1 => sp (ds ++ dds) m1 Q Ex) Ex
section
variable {CX : CXT} {k : Nat} {f C : Addr} {fd : FuncData} {ps : List Str} {sp : DSp} {dvs : List V} {dds : List D} {ds : List Value} {x mm : Str} {p pos apos : Pos} {e o : Expr} {es : List Expr} {t : TDA}
theorem lift_call (hdd : ∀ G, DvAll X.K G dvs dds) : ∀ st H Q, tL X.K E (dCall sp dds t) st H Q → tCall (spD X.K sp) dvs E (tLA X.K E t) st H Q := fun st H Qv ⟨tau, m, Q, Ex, rp, h, k, x⟩ =>
  ⟨tau, m, _, Ex, rp, h, fun vs ds H1 m1 a1 f1 dv1 h1 => ⟨ds ++ dds, m1, Q, Ex, a1, dv1.append (hdd _), h1, fun v d H' m' a f => k v d H' m' a (f1.trans f), x.step f1⟩, x⟩
end
end
/-! ### the end of a def: what stands in the store and is not told, is dropped; what is handed back may be frozen -/
section
variable {K : PySem.W.Frag}
def Gh (K : PySem.W.Frag) (d : D) (m : Mu) (d' : D) (m' : Mu) : Prop := ∀ H v, MuOk K m H → Dv K (hid m H) v d → MuOk K m' H ∧ Fr m H m' H ∧ Dv K (hid m' H) v d'
/-- the closure of an end by views -/
def Gq (K : PySem.W.Frag) (Q : DQ) : DQ := fun d m => ∃ d' m', Gh K d m d' m' ∧ Q d' m'
theorem sub_ok {m m' : Mu} {H : Hp} (a : MuOk K m H) (s : ∀ b o, m' b = some o → m b = some o) : MuOk K m' H ∧ Fr m H m' H := by
  have f : Fr m H m' H := fun b o h e => by
    refine ⟨?_, e⟩
    cases q : m' b with
    | none => rfl
    | some x =>
      rw [s b x q] at h
      cases h
  exact ⟨fun p o e => (a p o (s p o e)).mono f.same, f⟩
theorem Gh.sub {d : D} {m m' : Mu} (s : ∀ b o, m' b = some o → m b = some o) : Gh K d m d m' := fun H v a dv => by
  obtain ⟨x, y⟩ := sub_ok a s
  exact ⟨x, y, dv.mono y.same⟩
theorem Gh.refl {d : D} {m : Mu} : Gh K d m d m := Gh.sub fun _ _ h => h
/-- a list of the store, frozen as it stands; the store may lose more -/
theorem Gh.lst {p : Addr} {ds : List D} {m m' : Mu} (e : m p = some (.lst ds)) (n : m' p = none) (s : ∀ b o, m' b = some o → m b = some o) : Gh K (.ref p) m (.lst ds) m' := fun H v a dv => by
  obtain ⟨x, y⟩ := sub_ok a s
  refine ⟨x, y, ?_⟩
  cases dv
  obtain ⟨xs, hx, hl, hr⟩ := a p _ e
  exact .lst (by rw [hid_none n]; exact hx) hl (hr.mono y.same)
/-- a def's body -/
theorem Fun.okD {P : Program} {w : World} {mg : Str → Option Value} {base : Heap} {x qual : Str} {st : Stmt} {f : Addr} {fd : FuncData} {N ps : List Str} {k : Nat} {sp : DSp} (F : Fun K x qual st f fd) (S : FnScope N ps (defScope st)) (len : ∀ ds m Q Ex, sp ds m Q Ex → ds.length = ps.length)
    (hbody : ∀ (cdv : Value) (A : Around) (outer : List Env) (s : Shared) (H : Hp) (E : XK), Room k (A.deeper (envOfC qual (defScope st) s.heap.objs.size f cdv)) →
      ∃ t, PSs (cxOf CX0 P w K mg base N qual (defScope st) f cdv A outer s H E).nox (defBody st) (tLS K E0 t) ∧ ∀ ds m Q Ex, sp ds m Q Ex → t { nx := fun _ m' => Gq K Q .non m', rt := Gq K Q } (ds.map some ++ List.replicate (N.length - ds.length) none) m) : FnOk P w K mg base CX0 (k + 1) f fd ps (spD K sp) := by
  refine F.ok S (fun vs H Q E ⟨ds, m, QQ, Ex, a, dv, h, _⟩ => dv.length.trans (len _ _ _ _ h)) fun cdv A outer s H vs Q E hr ⟨ds, m, QQ, Ex, a, dv, h, kq, kx⟩ => ?_
  obtain ⟨t, ht, hq⟩ := hbody cdv A outer s H E hr
  refine ⟨_, ht, _, m, _, ⟨a, ?_⟩, hq ds m QQ Ex h, ⟨fun st' H' tau' m' r f ⟨d', m2, g, q⟩ => ?_, fun v d H' m' a' f dv' ⟨d', m2, g, q⟩ => ?_, fun _ _ _ _ _ _ z => z.elim, fun _ _ _ _ _ _ z => z.elim, xok_nx⟩⟩
  · unfold L2.start
    rw [dv.length]
    have : ∀ {vs : List V} {ds : List D}, DvAll K (hid m H) vs ds → ∀ n, EnvOk K (hid m H) (vs.map some ++ List.replicate n none) (ds.map some ++ List.replicate n none) := by
      intro vs ds r n
      induction vs generalizing ds with
      | nil =>
        cases r
        induction n with
        | zero => exact .nil
        | succ n ih => exact .cons (fun e he => nomatch he) ih
      | cons v vs ih =>
        cases r with
        | cons h1 h2 => exact .cons (fun e he => by cases he; exact ⟨v, rfl, h1⟩) (ih h2)
    exact this dv _
  · obtain ⟨x1, x2, x3⟩ := g H' .non r.mu .non
    exact kq _ _ H' m2 x1 (f.trans x2) x3 q
  · obtain ⟨x1, x2, x3⟩ := g H' v a' dv'
    exact kq _ _ H' m2 x1 (f.trans x2) x3 q
end
end DL
/-! DL3: operators, comparisons, subscripts, slices over trees. -/
namespace DL
open PySem PySem.Spec PyProof.Rows L2
section
variable {K : PySem.W.Frag} {m : Mu} {H : Hp}
/-- the items of a list: frozen, the script, or in the store -/
def lsD (m : Mu) : D → Option (List D)
  | .lst ds => some ds
  | .scr ds => some ds
  | .ref p => match m p with
    | some (.lst ds) => some ds
    | _ => none
  | _ => none
theorem lsD_lst {ds : List D} : lsD m (.lst ds) = some ds := rfl
theorem lsD_scr {ds : List D} : lsD m (.scr ds) = some ds := rfl
theorem lsD_ref {p : Addr} {ds : List D} (h : m p = some (.lst ds)) : lsD m (.ref p) = some ds := by
  show (match m p with | some (.lst ds) => some ds | _ => none) = _
  rw [h]
theorem rd_hid {a : Addr} {u : HO} (h : Rd (hid m H) a u) : Rd H a u := by
  rcases h with h | ⟨o, h⟩
  · exact .inl (of_hid h).2
  · exact .inr ⟨o, (of_hid h).2⟩
/-- a list that is read: tracked, or the script -/
def RdK (K : PySem.W.Frag) (H : Hp) (p : Addr) (xs : List V) : Prop := (H p = some (.lst xs) ∧ xs.length ≤ sizeLine) ∨ Scr K H p xs
theorem RdK.len {K : PySem.W.Frag} {H : Hp} {p : Addr} {xs : List V} (h : RdK K H p xs) : xs.length ≤ sizeLine := by
  rcases h with h | h | ⟨its, _, _, h⟩
  · exact h.2
  · exact h.2
  · exact h
theorem RdK.sq {p : Addr} {xs : List V} (h : RdK K H p xs) : SqL K H p xs := by
  rcases h with ⟨h, _⟩ | ⟨⟨o, h⟩, _⟩ | ⟨its, h, r, hl⟩
  · exact .inl (.inl h)
  · exact .inl (.inr ⟨o, h⟩)
  · exact .inr ⟨_, its.toArray, 0, h, rfl, rfl, rfl, by rw [List.size_toArray, ← r.length]; exact hl, r⟩
theorem RdK.obj {X : Cx} {pins : List (Addr × Obj)} {st : L2.St} {s : Shared} {p : Addr} {xs : List V} (I : Inv X pins st H s) (h : RdK X.K H p xs) : xs.length ≤ sizeLine ∧ ∃ (its : List Value) (n : Nat), Vals xs its ∧ s.heap.get? p = some { cls := .type "list", data := .seq its.toArray n } := by
  rcases h with ⟨h, _⟩ | ⟨⟨o, h⟩, _⟩ | ⟨its, h, r, hl⟩
  · exact I.hok p _ h
  · exact (I.hok p _ h).2
  · exact ⟨hl, its, 0, r, I.kIn _ _ h⟩
theorem scr_hid {p : Addr} {xs : List V} (h : Scr K (hid m H) p xs) : Scr K H p xs := h.imp (fun ⟨⟨o, h⟩, l⟩ => ⟨⟨o, (of_hid h).2⟩, l⟩) id
theorem lsD_ok {v : V} {d : D} {ds : List D} (a : MuOk K m H) (r : Dv K (hid m H) v d) (e : lsD m d = some ds) : ∃ p xs, v = .ref p ∧ RdK K H p xs ∧ DvAll K (hid m H) xs ds := by
  cases r with
  | lst h l q =>
    cases e
    exact ⟨_, _, rfl, .inl ⟨(of_hid h).2, l⟩, q⟩
  | scr h q =>
    cases e
    exact ⟨_, _, rfl, .inr (scr_hid h), q⟩
  | ref p =>
    have e : (match m p with | some (.lst ds) => some ds | _ => none) = some ds := e
    cases q : m p with
    | none => rw [q] at e; cases e
    | some o =>
      rw [q] at e
      cases o with
      | lst xs =>
        cases e
        obtain ⟨xs, h1, l, h2⟩ := a p _ q
        exact ⟨_, _, rfl, .inl ⟨h1, l⟩, h2⟩
      | dic _ => cases e
      | ins _ _ => cases e
  | _ => cases e
theorem tup_ok {v : V} {ds : List D} (r : Dv K (hid m H) v (.tup ds)) : ∃ p xs, v = .ref p ∧ SqT K H p xs ∧ DvAll K (hid m H) xs ds := by
  cases r with
  | tup h _ q => exact ⟨_, _, rfl, sqt_hid h, q⟩
theorem tup_len {v : V} {ds : List D} (r : Dv K (hid m H) v (.tup ds)) : ds.length ≤ sizeLine := by
  cases r with
  | tup _ l q => rw [← q.length]; exact l
/-- a made list, frozen or in the store -/
def mkL : Bool → List D → Mu → DQ → Prop
  | true, ds, m, Q => ∀ p, m p = none → Q (.ref p) (updM m p (.lst ds))
  | false, ds, m, Q => Q (.lst ds) m
theorem mkL_ok {b : Bool} {ds : List D} {Q : DQ} {xs : List V} {Qv : VK} (a : MuOk K m H) (r : DvAll K (hid m H) xs ds) (hl : xs.length ≤ sizeLine) (h : mkL b ds m Q)
    (k : ∀ v' d' H' m', MuOk K m' H' → Fr m H m' H' → Dv K (hid m' H') v' d' → Q d' m' → Qv v' H') : ∀ p, H p = none → Qv (.ref p) (upd H p (.lst xs)) := fun p n => by
  cases b with
  | false => exact k _ _ _ m (a.froz n) (.new n) (.lst (hid_at (a.fresh n)) hl (r.mono (Fr.new n).same)) h
  | true => exact k _ _ _ _ (a.newM (x := .lst ds) n ⟨xs, rfl, hl, r⟩) (.newM n) (.ref p) (h p (a.fresh n))
theorem mkT_ok {ds : List D} {Q : DQ} {xs : List V} {Qv : VK} (a : MuOk K m H) (r : DvAll K (hid m H) xs ds) (hl : xs.length ≤ sizeLine) (h : Q (.tup ds) m)
    (k : ∀ v' d' H' m', MuOk K m' H' → Fr m H m' H' → Dv K (hid m' H') v' d' → Q d' m' → Qv v' H') : ∀ p, H p = none → Qv (.ref p) (upd H p (.tup xs)) := fun p n =>
  k _ _ _ m (a.froz n) (.new n) (.tup (.inl (.inl (hid_at (a.fresh n)))) hl (r.mono (Fr.new n).same)) h
end
/-! ### arithmetic -/
section
variable {X : Cx}
def CMulD (i j : Int) : Prop := (-(2 ^ 64) < i ∧ i < 2 ^ 64) ∨ (-(2 ^ 64) < j ∧ j < 2 ^ 64) ∨ (i.natAbs < 2 ^ 4000 ∧ j.natAbs < 2 ^ 4000)
def CPowD (i j : Int) : Prop := 0 ≤ j ∧ j ≤ 1000 ∧ i.natAbs < 2 ^ 4000
theorem bits_le {i : Int} {n : Nat} (h : i.natAbs < 2 ^ n) : Builtin.Int.intBits i ≤ n := by
  unfold Builtin.Int.intBits
  split
  · exact Nat.zero_le _
  · rename_i hi
    have h0 : i.natAbs ≠ 0 := by
      intro z
      exact hi (by simp [Int.natAbs_eq_zero.mp z])
    have := (Nat.log2_lt h0).mpr h
    omega
def rCatR (K : PySem.W.Frag) : R2 := fun x y H Q => ∃ l b xs zs, x = .ref l ∧ y = .ref b ∧ RdK K H l xs ∧ RdK K H b zs ∧ xs.length + zs.length ≤ sizeLine ∧ ∀ p, H p = none → Q (.ref p) (upd H p (.lst (xs ++ zs)))
theorem op_catR : OpR X (binaryOp .Add) (rCatR X.K) := by
  intro pins s st H x y v u Q I rx ry h
  obtain ⟨l, b, xs, zs, rfl, rfl, hH, hB, hz, q⟩ := h
  cases rx
  cases ry
  obtain ⟨z, its, n, r, e⟩ := hH.obj I
  obtain ⟨z2, its2, n2, r2, e2⟩ := hB.obj I
  have l1 := r.length
  have l2 := r2.length
  refine PySem.P.add_list e e2 ?_ (by rw [List.size_toArray, List.size_toArray, ← l1, ← l2]; exact hz)
  rw [show its.toArray ++ its2.toArray = (its ++ its2).toArray by simp]
  exact ⟨.ref _, _, I.lnew (t' := s.toks) (r.append r2) (by rw [List.length_append]; exact hz), rfl, q _ I.fresh⟩
/-- a + b; mk: a list that is made goes into the store -/
def rdAdd (mk : Bool) : RD2
  | .int i, .int j, m, Q => Q (.int (i + j)) m
  | .int i, .bl k, m, Q => Q (.int (i + b2i k)) m
  | .str a, .str b, m, Q => a.length + b.length ≤ sizeLine ∧ Q (.str (a ++ b)) m
  | .tup a, .tup b, m, Q => a.length + b.length ≤ sizeLine ∧ Q (.tup (a ++ b)) m
  | d, e, m, Q => ∃ xs ys, lsD m d = some xs ∧ lsD m e = some ys ∧ xs.length + ys.length ≤ sizeLine ∧ mkL mk (xs ++ ys) m Q
theorem or_add : OpR X (binaryOp .Add) (fun x y H Q => (∃ i j, x = .int i ∧ y = .int j ∧ Q (.int (i + j)) H) ∨ (∃ i k, x = .int i ∧ y = .bl k ∧ Q (.int (i + b2i k)) H) ∨ (∃ i j, x = .str i ∧ y = .str j ∧ i.length + j.length ≤ sizeLine ∧ Q (.str (i ++ j)) H) ∨ rCatA X.K x y H Q ∨ rCatR X.K x y H Q) :=
  OpR.or (r := fun x y H Q => ∃ i j, x = .int i ∧ y = .int j ∧ Q (.int (i + j)) H) op_add (OpR.or op_add_ib (OpR.or op_add_str (OpR.or op_catA op_catR)))
theorem o_add {mk : Bool} : Op2 X.K (fun x y H Q => (∃ i j, x = .int i ∧ y = .int j ∧ Q (.int (i + j)) H) ∨ (∃ i k, x = .int i ∧ y = .bl k ∧ Q (.int (i + b2i k)) H) ∨ (∃ i j, x = .str i ∧ y = .str j ∧ i.length + j.length ≤ sizeLine ∧ Q (.str (i ++ j)) H) ∨ rCatA X.K x y H Q ∨ rCatR X.K x y H Q) (rdAdd mk) := by
  intro v w d e H m Q Qv a r1 r2 h k
  have lists : (∃ xs ys, lsD m d = some xs ∧ lsD m e = some ys ∧ xs.length + ys.length ≤ sizeLine ∧ mkL mk (xs ++ ys) m Q) → rCatR X.K v w H Qv := by
    rintro ⟨xs, ys, e1, e2, hl, q⟩
    obtain ⟨p, us, rfl, h1, q1⟩ := lsD_ok a r1 e1
    obtain ⟨p', us', rfl, h2, q2⟩ := lsD_ok a r2 e2
    exact ⟨p, p', us, us', rfl, rfl, h1, h2, by rw [q1.length, q2.length]; exact hl, mkL_ok a (q1.append q2) (by rw [List.length_append, q1.length, q2.length]; exact hl) q k⟩
  unfold rdAdd at h
  split at h
  · cases r1; cases r2
    exact .inl ⟨_, _, rfl, rfl, k _ _ H m a .refl (.int _) h⟩
  · cases r1; cases r2
    exact .inr (.inl ⟨_, _, rfl, rfl, k _ _ H m a .refl (.int _) h⟩)
  · cases r1; cases r2
    exact .inr (.inr (.inl ⟨_, _, rfl, rfl, h.1, k _ _ H m a .refl (.str _) h.2⟩))
  · rename_i xs ys
    obtain ⟨p, us, rfl, h1, q1⟩ := tup_ok r1
    obtain ⟨p', us', rfl, h2, q2⟩ := tup_ok r2
    refine .inr (.inr (.inr (.inl ⟨p, p', us, us', rfl, rfl, h1, h2, by rw [q1.length, q2.length]; exact h.1, fun e => ?_, fun _ e => ?_, fun _ _ => mkT_ok a (q1.append q2) (by rw [List.length_append, q1.length, q2.length]; exact h.1) h.2 k⟩)))
    · subst e
      cases q1
      exact k _ _ H m a .refl r2 h.2
    · subst e
      cases q2
      rw [List.append_nil] at h
      exact k _ _ H m a .refl r1 h.2
  · exact .inr (.inr (.inr (.inr (lists h))))
def rdSub : RD2
  | .int i, .int j, m, Q => Q (.int (i - j)) m
  | _, _, _, _ => False
theorem o_sub : Op2 X.K (rI0 fun i j => .int (i - j)) rdSub := by
  intro v w d e H m Q Qv a r1 r2 h k
  unfold rdSub at h
  split at h
  · cases r1; cases r2
    exact ⟨_, _, rfl, rfl, k _ _ H m a .refl (.int _) h⟩
  · exact h.elim
theorem op_mulD : OpR X (binaryOp .Mult) (rI CMulD fun i j => .int (i * j)) := opI fun i j _ _ _ _ _ hc q => mul_int q (by
  rcases hc with h | h | h
  · exact IntMulOk.of_left (bits_le (by omega))
  · exact IntMulOk.of_right (bits_le (by omega))
  · exact (CMulW.ok (wide_mul h.1 h.2 (by decide) (by decide) (by decide))))
def rdMul (mk : Bool) : RD2
  | .int i, .int j, m, Q => CMulD i j ∧ Q (.int (i * j)) m
  | .lst xs, .int k, m, Q => (-(2 ^ 63) ≤ k ∧ k < 2 ^ 63 ∧ xs.length * k.toNat ≤ sizeLine) ∧ mkL mk (List.replicate k.toNat xs).flatten m Q
  | _, _, _, _ => False
theorem DvAll.rep {K : PySem.W.Frag} {G : Hp} {xs : List V} {ds : List D} (h : DvAll K G xs ds) : ∀ n : Nat, DvAll K G (List.replicate n xs).flatten (List.replicate n ds).flatten
  | 0 => .nil
  | n + 1 => by
    rw [List.replicate_succ, List.replicate_succ, List.flatten_cons, List.flatten_cons]
    exact h.append (h.rep n)
theorem rep_len {α : Type} (xs : List α) : ∀ n : Nat, (List.replicate n xs).flatten.length = n * xs.length
  | 0 => by simp
  | n + 1 => by rw [List.replicate_succ, List.flatten_cons, List.length_append, rep_len xs n, Nat.succ_mul, Nat.add_comm]
theorem o_mul {mk : Bool} : Op2 X.K (fun x y H Q => rI CMulD (fun i j => .int (i * j)) x y H Q ∨ rRep x y H Q) (rdMul mk) := by
  intro v w d e H m Q Qv a r1 r2 h k
  unfold rdMul at h
  split at h
  · cases r1; cases r2
    exact .inl ⟨_, _, rfl, rfl, h.1, k _ _ H m a .refl (.int _) h.2⟩
  · cases r2
    cases r1 with
    | lst h1 _ q1 => exact .inr ⟨_, _, _, rfl, rfl, (of_hid h1).2, h.1.1, h.1.2.1, by rw [q1.length]; exact h.1.2.2, mkL_ok a (q1.rep _) (by rw [rep_len, q1.length, Nat.mul_comm]; exact h.1.2.2) h.2 k⟩
  · exact h.elim
theorem or_mul : OpR X (binaryOp .Mult) (fun x y H Q => rI CMulD (fun i j => .int (i * j)) x y H Q ∨ rRep x y H Q) := OpR.or op_mulD op_rep
def CDivD (j : Int) : Prop := 0 < j ∧ j < 2 ^ 4000
def rdDiv : RD2
  | .int i, .int j, m, Q => CDivD j ∧ Q (.int (i / j)) m
  | _, _, _, _ => False
theorem o_div : Op2 X.K (rI CDivW fun i j => .int (i / j)) rdDiv := by
  intro v w d e H m Q Qv a r1 r2 h k
  unfold rdDiv at h
  split at h
  · cases r1; cases r2
    have h0 := h.1.1
    have h1 := h.1.2
    exact ⟨_, _, rfl, rfl, wide_div h0 (b := 4000) (by omega) (by decide) (by decide), k _ _ H m a .refl (.int _) h.2⟩
  · exact h.elim
def rdMod : RD2
  | .int i, .int j, m, Q => 0 < j ∧ Q (.int (i % j)) m
  | _, _, _, _ => False
theorem o_mod : Op2 X.K (rI (fun _ j => 0 < j) fun i j => .int (i % j)) rdMod := by
  intro v w d e H m Q Qv a r1 r2 h k
  unfold rdMod at h
  split at h
  · cases r1; cases r2
    exact ⟨_, _, rfl, rfl, h.1, k _ _ H m a .refl (.int _) h.2⟩
  · exact h.elim
theorem op_powD : OpR X (binaryOp .Pow) (rI CPowD fun i j => .int (i ^ j.toNat)) := opI fun i j _ _ _ _ _ hc q => pow_int hc.1 (by
  have h1 : Builtin.Int.intBits i ≤ 4000 := bits_le hc.2.2
  have h2 := hc.1
  have h3 := hc.2.1
  have h4 : (Builtin.Int.intBits i : Int) * j ≤ 4000 * 1000 := Int.mul_le_mul (by omega) h3 h2 (by decide)
  exact Int.le_trans h4 (by decide)) q
def rdPow : RD2
  | .int i, .int j, m, Q => CPowD i j ∧ Q (.int (i ^ j.toNat)) m
  | _, _, _, _ => False
theorem o_pow : Op2 X.K (rI CPowD fun i j => .int (i ^ j.toNat)) rdPow := by
  intro v w d e H m Q Qv a r1 r2 h k
  unfold rdPow at h
  split at h
  · cases r1; cases r2
    exact ⟨_, _, rfl, rfl, h.1, k _ _ H m a .refl (.int _) h.2⟩
  · exact h.elim
/-! ### order -/
def rdCmp (p : Int → Int → Bool) (q : Str → Str → Bool) : RD2
  | .int i, .int j, m, Q => Q (.bl (p i j)) m
  | .str a, .str b, m, Q => Q (.bl (q a b)) m
  | _, _, _, _ => False
theorem o_cmp {p : Int → Int → Bool} {q : Str → Str → Bool} : Op2 X.K (fun x y H Q => rI0 (fun i j => .bl (p i j)) x y H Q ∨ ∃ i j, x = .str i ∧ y = .str j ∧ Q (.bl (q i j)) H) (rdCmp p q) := by
  intro v w d e H m Q Qv a r1 r2 h k
  unfold rdCmp at h
  split at h
  · cases r1; cases r2
    exact .inl ⟨_, _, rfl, rfl, k _ _ H m a .refl (.bl _) h⟩
  · cases r1; cases r2
    exact .inr ⟨_, _, rfl, rfl, k _ _ H m a .refl (.bl _) h⟩
  · exact h.elim
end
/-! ### data as PyData: == , in, repr -/
section
variable (m : Mu)
mutual
inductive PV : D → PyData → Prop
  | non : PV .non .none
  | bl (b : Bool) : PV (.bl b) (.bool b)
  | int (i : Int) : PV (.int i) (.int i)
  | str (x : Str) : PV (.str x) (.str x)
  | lst {ds : List D} {ps : List PyData} : PVs ds ps → PV (.lst ds) (.list ps)
  | scr {ds : List D} {ps : List PyData} : PVs ds ps → PV (.scr ds) (.list ps)
  | tup {ds : List D} {ps : List PyData} : PVs ds ps → PV (.tup ds) (.tuple ps)
  | ref {p : Addr} {ds : List D} {ps : List PyData} : m p = some (.lst ds) → PVs ds ps → PV (.ref p) (.list ps)
inductive PVs : List D → List PyData → Prop
  | nil : PVs [] []
  | cons {d : D} {p : PyData} {ds : List D} {ps : List PyData} : PV d p → PVs ds ps → PVs (d :: ds) (p :: ps)
end
end
section
variable {K : PySem.W.Frag} {m : Mu} {H : Hp}
mutual
theorem PV.dp (a : MuOk K m H) : ∀ (p : PyData) (d : D) (v : V), PV m d p → Dv K (hid m H) v d → Dp K H v p
  | .none, _, _, h, r => by cases h; cases r; exact .non
  | .bool b, _, _, h, r => by cases h; cases r; exact .bl b
  | .int b, _, _, h, r => by cases h; cases r; exact .int b
  | .str b, _, _, h, r => by cases h; cases r; exact .str b
  | .list ps, _, _, h, r => by
    cases h with
    | lst hs =>
      cases r with
      | lst h1 _ q => exact .lst (.inl (.inl (of_hid h1).2)) (PVs.dp a ps _ _ hs q)
    | scr hs =>
      cases r with
      | scr h1 q => exact .lst (RdK.sq (.inr (scr_hid h1))) (PVs.dp a ps _ _ hs q)
    | ref hm hs =>
      cases r
      obtain ⟨xs, h1, _, q⟩ := a _ _ hm
      exact .lst (.inl (.inl h1)) (PVs.dp a ps _ _ hs q)
  | .tuple ps, _, _, h, r => by
    cases h with
    | tup hs =>
      cases r with
      | tup h1 _ q => exact .tup (sqt_hid h1) (PVs.dp a ps _ _ hs q)
  | .dict _, _, _, h, _ => by cases h
theorem PVs.dp (a : MuOk K m H) : ∀ (ps : List PyData) (ds : List D) (vs : List V), PVs m ds ps → DvAll K (hid m H) vs ds → DpAll K H vs ps
  | [], _, _, h, r => by cases h; cases r; exact .nil
  | p :: ps, _, _, h, r => by
    cases h with
    | cons h1 h2 =>
      cases r with
      | cons r1 r2 => exact .cons (PV.dp a p _ _ h1 r1) (PVs.dp a ps _ _ h2 r2)
end
theorem PVs.ints : ∀ ns : List Int, PVs m (ns.map D.int) (ns.map PyData.int)
  | [] => .nil
  | n :: r => .cons (.int n) (PVs.ints r)
theorem PVs.strs : ∀ ns : List Str, PVs m (ns.map D.str) (ns.map PyData.str)
  | [] => .nil
  | n :: r => .cons (.str n) (PVs.strs r)
end
section
variable {X : Cx}
def pEqV : PyData → PyData → Bool := PyData.eqv
/-- ==, != of data -/
def rdEq (neg : Bool) : RD2 := fun d e m Q => (∃ p q, PV m d p ∧ PV m e q ∧ SeqAt.shaped p = true ∧ SeqAt.shaped q = true ∧ Q (.bl (if neg then !PyData.eqv p q else PyData.eqv p q)) m) ∨
  ∃ x y, d = .str x ∧ e = .str y ∧ Q (.bl (if neg then !decide (x = y) else decide (x = y))) m
def rEqA (K : PySem.W.Frag) : R2 := fun x y H Q => rEqD K x y H Q ∨ ∃ i j, x = .str i ∧ y = .str j ∧ Q (.bl (decide (i = j))) H
def rNeA (K : PySem.W.Frag) : R2 := fun x y H Q => rNeD K x y H Q ∨ ∃ i j, x = .str i ∧ y = .str j ∧ Q (.bl (!decide (i = j))) H
theorem op_eqS : OpR X (compareOp .Eq) (fun x y H Q => ∃ i j, x = .str i ∧ y = .str j ∧ Q (.bl (decide (i = j))) H) := fun pins s st H x y v u Q I rx ry ⟨i, j, e1, e2, q⟩ => by
  subst e1 e2
  exact op_eq pins s st H _ _ v u Q I rx ry ⟨rfl, by simpa using q⟩
theorem op_neS : OpR X (compareOp .NotEq) (fun x y H Q => ∃ i j, x = .str i ∧ y = .str j ∧ Q (.bl (!decide (i = j))) H) := fun pins s st H x y v u Q I rx ry ⟨i, j, e1, e2, q⟩ => by
  subst e1 e2
  exact op_ne pins s st H _ _ v u Q I rx ry ⟨rfl, by simpa using q⟩
theorem op_eqA (hu : X.A.units + 64 < cLine) : OpR X (compareOp .Eq) (rEqA X.K) := OpR.or (op_eqD hu) op_eqS
theorem op_neA (hu : X.A.units + 64 < cLine) : OpR X (compareOp .NotEq) (rNeA X.K) := OpR.or (op_neD hu) op_neS
theorem o_eq : Op2 X.K (rEqA X.K) (rdEq false) := by
  intro v w d e H m Q Qv a r1 r2 h k
  rcases h with ⟨p, q, h1, h2, s1, s2, h⟩ | ⟨x, y, e1, e2, h⟩
  · exact .inl ⟨p, q, PV.dp a p d v h1 r1, PV.dp a q e w h2 r2, s1, s2, k _ _ H m a .refl (.bl _) h⟩
  · subst e1 e2
    cases r1; cases r2
    exact .inr ⟨_, _, rfl, rfl, k _ _ H m a .refl (.bl _) h⟩
theorem o_ne : Op2 X.K (rNeA X.K) (rdEq true) := by
  intro v w d e H m Q Qv a r1 r2 h k
  rcases h with ⟨p, q, h1, h2, s1, s2, h⟩ | ⟨x, y, e1, e2, h⟩
  · exact .inl ⟨p, q, PV.dp a p d v h1 r1, PV.dp a q e w h2 r2, s1, s2, k _ _ H m a .refl (.bl _) h⟩
  · subst e1 e2
    cases r1; cases r2
    exact .inr ⟨_, _, rfl, rfl, k _ _ H m a .refl (.bl _) h⟩
/-- in, not in: a text in a text; data in a list; flat things in a tuple -/
def txIn (a b : Str) : Bool := !(Builtin.Str.occurrences b a 0 b.length 1).isEmpty
def rdIn (neg : Bool) : RD2
  | .str a, .str b, m, Q => Q (.bl (if neg then !txIn a b else txIn a b)) m
  | d, .tup es, m, Q => ∃ p ps, PV m d p ∧ PVs m es ps ∧ flatP p = true ∧ ps.all flatP = true ∧ Q (.bl (if neg then !ps.any fun z => PyData.eqv z p else ps.any fun z => PyData.eqv z p)) m
  | d, .dic kvs, m, Q => ∃ k : Key, d = kD k ∧ Q (.bl (if neg then !kvs.any fun z => decide (z.1 = k) else kvs.any fun z => decide (z.1 = k))) m
  | d, .ref p, m, Q => (∃ q ps es, m p = some (.lst es) ∧ PV m d q ∧ PVs m es ps ∧ SeqAt.shaped q = true ∧ SeqAt.shaped (.list ps) = true ∧ Q (.bl (if neg then !ps.any fun z => PyData.eqv z q else ps.any fun z => PyData.eqv z q)) m) ∨
      ∃ (k : Key) (kvs : List (Key × D)), m p = some (.dic kvs) ∧ d = kD k ∧ Q (.bl (if neg then !kvs.any fun z => decide (z.1 = k) else kvs.any fun z => decide (z.1 = k))) m
  | d, e, m, Q => ∃ q ps es, lsD m e = some es ∧ PV m d q ∧ PVs m es ps ∧ SeqAt.shaped q = true ∧ SeqAt.shaped (.list ps) = true ∧ Q (.bl (if neg then !ps.any fun z => PyData.eqv z q else ps.any fun z => PyData.eqv z q)) m
where
  flatP : PyData → Bool
    | .none | .bool _ | .int _ | .str _ => true
    | _ => false
  kD : Key → D
    | .inl i => .int i
    | .inr x => .str x
end
end DL
/-! DL4: in, subscripts, slices, stores, what is walked. -/
namespace DL
open PySem PySem.Spec PyProof.Rows L2
/-! ### dicts: keys and values -/
def kD : Key → D
  | .inl i => .int i
  | .inr x => .str x
def valD (kvs : List (Key × D)) (k : Key) : Option D := (kvs.find? fun kv => decide (kv.1 = k)).map (·.2)
def putD (kvs : List (Key × D)) (k : Key) (v : D) : List (Key × D) :=
  if (kvs.any fun kv => decide (kv.1 = k)) = true then kvs.map (fun kv => if kv.1 = k then (kv.1, v) else kv) else kvs ++ [(k, v)]
section
variable {K : PySem.W.Frag} {G : Hp}
theorem kD_inv {v : V} {k : Key} (r : Dv K G v (kD k)) : v = kV k := by
  cases k with
  | inl i => cases r; rfl
  | inr x => cases r; rfl
theorem DvKv.any {k : Key} : ∀ {xs : List (Key × V)} {ds : List (Key × D)}, DvKv K G xs ds → (xs.any fun kv => decide (kv.1 = k)) = (ds.any fun kv => decide (kv.1 = k))
  | _, _, .nil => rfl
  | _, _, .cons _ r => by rw [List.any_cons, List.any_cons, DvKv.any r]
theorem DvKv.length : ∀ {xs : List (Key × V)} {ds : List (Key × D)}, DvKv K G xs ds → xs.length = ds.length
  | _, _, .nil => rfl
  | _, _, .cons _ r => congrArg (· + 1) r.length
theorem DvKv.val {k : Key} : ∀ {xs : List (Key × V)} {ds : List (Key × D)}, DvKv K G xs ds → (∀ d, valD ds k = some d → ∃ v, valV xs k = some v ∧ Dv K G v d) ∧ (valD ds k = none → valV xs k = none)
  | _, _, .nil => ⟨fun _ e => (nomatch e), fun _ => rfl⟩
  | _, _, .cons (k := j) h r => by
    obtain ⟨h1, h2⟩ := DvKv.val (k := k) r
    unfold valD valV at *
    by_cases e : j = k
    · simp only [List.find?_cons, e, decide_true, Option.map_some]
      refine ⟨fun d q => ?_, fun q => nomatch q⟩
      cases q
      exact ⟨_, rfl, h⟩
    · simp only [List.find?_cons, decide_eq_false e]
      exact ⟨h1, h2⟩
theorem DvKv.append : ∀ {xs ys : List (Key × V)} {ds es : List (Key × D)}, DvKv K G xs ds → DvKv K G ys es → DvKv K G (xs ++ ys) (ds ++ es)
  | _, _, _, _, .nil, s => s
  | _, _, _, _, .cons h r, s => .cons h (DvKv.append r s)
theorem DvKv.mapPut {k : Key} {v : V} {d : D} (h : Dv K G v d) : ∀ {xs : List (Key × V)} {ds : List (Key × D)}, DvKv K G xs ds → DvKv K G (xs.map (fun kv => if kv.1 = k then (kv.1, v) else kv)) (ds.map (fun kv => if kv.1 = k then (kv.1, d) else kv))
  | _, _, .nil => .nil
  | _, _, .cons (k := j) h1 h2 => by
    rw [List.map_cons, List.map_cons]
    by_cases e : j = k
    · simp only [e, if_true]
      exact .cons h (DvKv.mapPut h h2)
    · simp only [if_neg e]
      exact .cons h1 (DvKv.mapPut h h2)
theorem DvKv.put {k : Key} {v : V} {d : D} {xs : List (Key × V)} {ds : List (Key × D)} (r : DvKv K G xs ds) (h : Dv K G v d) : DvKv K G (putK xs k v) (putD ds k d) := by
  unfold putK putD
  rw [r.any]
  split
  · exact r.mapPut h
  · exact r.append (.cons h .nil)
/-- the dict: frozen, or in the store -/
def dcD (m : Mu) : D → Option (List (Key × D))
  | .dic ds => some ds
  | .ref p => match m p with
    | some (.dic ds) => some ds
    | _ => none
  | _ => none
theorem dcD_ref {m : Mu} {p : Addr} {ds : List (Key × D)} (h : m p = some (.dic ds)) : dcD m (.ref p) = some ds := by
  show (match m p with | some (.dic ds) => some ds | _ => none) = _
  rw [h]
theorem dcD_ok {m : Mu} {H : Hp} {v : V} {d : D} {ds : List (Key × D)} (a : MuOk K m H) (r : Dv K (hid m H) v d) (e : dcD m d = some ds) : ∃ p xs, v = .ref p ∧ H p = some (.dK xs) ∧ DvKv K (hid m H) xs ds := by
  cases r with
  | dic h q =>
    cases e
    exact ⟨_, _, rfl, (of_hid h).2, q⟩
  | ref p =>
    have e : (match m p with | some (.dic ds) => some ds | _ => none) = some ds := e
    cases q : m p with
    | none => rw [q] at e; cases e
    | some o =>
      rw [q] at e
      cases o with
      | dic xs =>
        cases e
        obtain ⟨xs, h1, h2⟩ := a p _ q
        exact ⟨_, _, rfl, h1, h2⟩
      | lst _ => cases e
      | ins _ _ => cases e
  | _ => cases e
end
def flatP : PyData → Bool
  | .none | .bool _ | .int _ | .str _ => true
  | _ => false
section
variable {X : Cx}
theorem op_dinR (neg : Bool) (hu : X.A.units + 1 < cLine) : OpR X (compareOp (if neg then .NotIn else .In)) (fun y x H Q => ∃ a o, x = .ref a ∧ DGet H a y o ∧ Q (.bl (if neg then !o.isSome else o.isSome)) H) := by
  intro pins s st H y x u v Q I ry rx ⟨a, o, ex, g, q⟩
  subst ex
  cases rx
  cases neg with
  | false => exact d_in hu I g ry fun s3 I3 => ⟨.bl o.isSome, H, I3, rfl, q⟩
  | true => exact d_notIn hu I g ry fun s3 I3 => ⟨.bl (!o.isSome), H, I3, rfl, q⟩
def rdInT (neg : Bool) : RD2
  | .str a, .str b, m, Q => Q (.bl (if neg then !txIn a b else txIn a b)) m
  | _, _, _, _ => False
/-- x in a list of data; in a tuple or list of flat things; in a dict -/
def rdInL (neg : Bool) : RD2 := fun d e m Q =>
  (∃ q ps es, lsD m e = some es ∧ PV m d q ∧ PVs m es ps ∧ SeqAt.shaped q = true ∧ SeqAt.shaped (.list ps) = true ∧ Q (.bl (if neg then !ps.any fun z => PyData.eqv z q else ps.any fun z => PyData.eqv z q)) m) ∨
  (∃ q ps es, e = .tup es ∧ PV m d q ∧ PVs m es ps ∧ flatP q = true ∧ ps.all flatP = true ∧ Q (.bl (if neg then !ps.any fun z => PyData.eqv z q else ps.any fun z => PyData.eqv z q)) m) ∨
  ∃ (k : Key) (kvs : List (Key × D)), dcD m e = some kvs ∧ d = kD k ∧ Q (.bl (if neg then !(valD kvs k).isSome else (valD kvs k).isSome)) m
def rInAll (K : PySem.W.Frag) (neg : Bool) : R2 := fun x y H Q =>
  (∃ d ds, Dp K H x d ∧ Dp K H y (.list ds) ∧ SeqAt.shaped d = true ∧ SeqAt.shaped (.list ds) = true ∧ Q (.bl (if neg then !ds.any fun z => PyData.eqv z d else ds.any fun z => PyData.eqv z d)) H) ∨
  rIn K neg x y H Q ∨ (∃ a o, y = .ref a ∧ DGet H a x o ∧ Q (.bl (if neg then !o.isSome else o.isSome)) H)
theorem op_inAll (hu : X.A.units + 65 < cLine) : OpR X (compareOp .In) (rInAll X.K false) := OpR.or (op_inD hu) (OpR.or op_in_seq (op_dinR false (by omega)))
theorem op_notInAll (hu : X.A.units + 65 < cLine) : OpR X (compareOp .NotIn) (rInAll X.K true) := OpR.or (op_notInD hu) (OpR.or op_notIn_seq (op_dinR true (by omega)))
theorem flat_pv {m : Mu} {K : PySem.W.Frag} {G : Hp} {d : D} {p : PyData} {v : V} (h : PV m d p) (f : flatP p = true) (r : Dv K G v d) : flatV v = true := by
  cases h <;> first | (cases r; rfl) | cases f
theorem eq_pv {m : Mu} {K : PySem.W.Frag} {G : Hp} {d e : D} {p q : PyData} {v w : V} (h : PV m d p) (f : flatP p = true) (r : Dv K G v d) (h2 : PV m e q) (f2 : flatP q = true) (r2 : Dv K G w e) : eqV v w = PyData.eqv p q := by
  cases h <;> first | (cases f; done) | skip
  all_goals (cases r; cases h2 <;> first | (cases f2; done) | skip)
  all_goals (cases r2; simp [eqV, PyData.eqv])
theorem inV_pv {m : Mu} {K : PySem.W.Frag} {G : Hp} {e : D} {q : PyData} {w : V} (h2 : PV m e q) (f2 : flatP q = true) (r2 : Dv K G w e) : ∀ {ds : List D} {ps : List PyData} {vs : List V}, PVs m ds ps → ps.all flatP = true → DvAll K G vs ds → inV w vs = (ps.any fun z => PyData.eqv z q) ∧ vs.all flatV = true
  | _, _, _, .nil, _, .nil => ⟨rfl, rfl⟩
  | _, _, _, .cons h r, f, .cons d1 d2 => by
    rw [List.all_cons, Bool.and_eq_true] at f
    obtain ⟨i1, i2⟩ := inV_pv h2 f2 r2 r f.2 d2
    refine ⟨?_, ?_⟩
    · unfold inV at *
      rw [List.any_cons, List.any_cons, i1, eq_pv h f.1 d1 h2 f2 r2]
    · rw [List.all_cons, i2, flat_pv h f.1 d1]; rfl
theorem o_inL {neg : Bool} : Op2 X.K (rInAll X.K neg) (rdInL neg) := by
  intro v w d e H m Q Qv a r1 r2 h k
  rcases h with ⟨q, ps, es, e1, h1, h2, s1, s2, h⟩ | ⟨q, ps, es, e1, h1, h2, s1, s2, h⟩ | ⟨ky, kvs, e1, e2, h⟩
  · obtain ⟨p, xs, rfl, hr, hx⟩ := lsD_ok a r2 e1
    exact .inl ⟨q, ps, PV.dp a q d v h1 r1, .lst hr.sq (PVs.dp a ps _ _ h2 hx), s1, s2, k _ _ H m a .refl (.bl _) h⟩
  · subst e1
    obtain ⟨p, xs, rfl, hr, hx⟩ := tup_ok r2
    obtain ⟨i1, i2⟩ := inV_pv h1 s1 r1 h2 s2 hx
    exact .inr (.inl ⟨p, xs, rfl, .inr hr, flat_pv h1 s1 r1, i2, by rw [i1]; exact k _ _ H m a .refl (.bl _) h⟩)
  · subst e2
    obtain ⟨p, xs, rfl, hr, hx⟩ := dcD_ok a r2 e1
    refine .inr (.inr ⟨p, valV xs ky, rfl, ?_, ?_⟩)
    · rw [kD_inv r1]; exact DGet.k hr
    · have : (valV xs ky).isSome = (valD kvs ky).isSome := by
        obtain ⟨q1, q2⟩ := hx.val (k := ky)
        cases e : valD kvs ky with
        | none => rw [q2 e]; rfl
        | some z =>
          obtain ⟨u, q3, _⟩ := q1 z e
          rw [q3]; rfl
      rw [this]
      exact k _ _ H m a .refl (.bl _) h
theorem o_inT : Op2 X.K (fun x y H Q => ∃ i j, x = .str i ∧ y = .str j ∧ Q (.bl (!(Builtin.Str.occurrences j i 0 j.length 1).isEmpty)) H) (rdInT false) := by
  intro v w d e H m Q Qv a r1 r2 h k
  unfold rdInT at h
  split at h
  · cases r1; cases r2
    exact ⟨_, _, rfl, rfl, k _ _ H m a .refl (.bl _) h⟩
  · exact h.elim
theorem o_notInT : Op2 X.K (fun x y H Q => ∃ i j, x = .str i ∧ y = .str j ∧ Q (.bl (!(!(Builtin.Str.occurrences j i 0 j.length 1).isEmpty))) H) (rdInT true) := by
  intro v w d e H m Q Qv a r1 r2 h k
  unfold rdInT at h
  split at h
  · cases r1; cases r2
    exact ⟨_, _, rfl, rfl, k _ _ H m a .refl (.bl _) h⟩
  · exact h.elim
/-- is None, is not None; is of bools -/
def rdIs (neg : Bool) : RD2
  | .bl a, .bl b, m, Q => Q (.bl (if neg then !decide (a = b) else decide (a = b))) m
  | d, .non, m, Q => Q (.bl (if neg then !isNon d else isNon d)) m
  | _, _, _, _ => False
where isNon : D → Bool
  | .non => true
  | _ => false
/-! ### subscripts -/
theorem atI_dv {K : PySem.W.Frag} {G : Hp} {xs : List V} {ds : List D} {i : Int} {d : D} (r : DvAll K G xs ds) (h : atI ds i = some d) : ∃ v, atI xs i = some v ∧ Dv K G v d := by
  unfold atI at h ⊢
  rw [r.length]
  cases e : ixN ds.length i with
  | none => rw [e] at h; cases h
  | some j =>
    rw [e] at h
    exact r.get h
def rdIx : RD2
  | .str z, .int i, m, Q => ∃ c, z.length ≤ sizeLine ∧ atI z.cps.toList i = some c ∧ Q (.str ⟨#[c]⟩) m
  | .tup ds, .int i, m, Q => ∃ d, atI ds i = some d ∧ Q d m
  | e, .int i, m, Q => ∃ ds d, lsD m e = some ds ∧ atI ds i = some d ∧ Q d m
  | _, _, _, _ => False
theorem o_ix : Op2 X.K (rIx X.K) rdIx := by
  intro v w d e H m Q Qv a r1 r2 h k
  unfold rdIx at h
  split at h
  · obtain ⟨c, h1, h2, h3⟩ := h
    cases r1; cases r2
    exact .inr (.inr ⟨_, _, c, rfl, rfl, h1, h2, k _ _ H m a .refl (.str _) h3⟩)
  · obtain ⟨z, h1, h2⟩ := h
    obtain ⟨p, xs, rfl, hr, hx⟩ := tup_ok r1
    cases r2
    obtain ⟨u, q1, q2⟩ := atI_dv hx h1
    exact .inr (.inl ⟨p, xs, _, u, rfl, rfl, hr, q1, k _ _ H m a .refl q2 h2⟩)
  · obtain ⟨ds, z, h0, h1, h2⟩ := h
    obtain ⟨p, xs, rfl, hr, hx⟩ := lsD_ok a r1 h0
    cases r2
    obtain ⟨u, q1, q2⟩ := atI_dv hx h1
    exact .inl ⟨p, xs, _, u, rfl, rfl, hr.sq, q1, k _ _ H m a .refl q2 h2⟩
  · exact h.elim
section
variable {E : XK} {a b : Expr} {pos : Pos} {ta tb : TD}
theorem de_ix (ha : PE X a (tL X.K E ta)) (hb : PE X b (tL X.K E tb)) (hs : PlainIx b := by exact fun _ _ => rfl) : PE X (.Subscript a b pos) (tL X.K E (dOp rdIx ta tb)) := pe_imp (pe_ix ix_seq ha hb hs) (lift_op o_ix)
def rdGet : RD2 := fun e d m Q => ∃ (k : Key) (kvs : List (Key × D)) (z : D), dcD m e = some kvs ∧ d = kD k ∧ valD kvs k = some z ∧ Q z m
theorem de_dget (hu : X.A.units + 1 < cLine) (ha : PE X a (tL X.K E ta)) (hb : PE X b (tL X.K E tb)) (hs : NoSl b := by exact fun _ _ => rfl) : PE X (.Subscript a b pos) (tL X.K E (dOp rdGet ta tb)) :=
  pe_imp (pe_dget hu ha hb hs) fun st H Qv h => by
    have h2 := lift_op (r := fun x y H Q => ∃ a v, x = .ref a ∧ DGet H a y (some v) ∧ Q v H) (rd := rdGet) (by
      intro v w d e H m Q Qv a r1 r2 ⟨ky, kvs, z, e1, e2, e3, h⟩ k
      subst e2
      obtain ⟨p, xs, rfl, hr, hx⟩ := dcD_ok a r1 e1
      obtain ⟨u, q3, q4⟩ := (hx.val (k := ky)).1 z e3
      refine ⟨p, u, rfl, ?_, k _ _ H m a .refl q4 h⟩
      rw [kD_inv r2, ← q3]
      exact DGet.k hr) st H Qv h
    exact h2
/-! ### slices -/
abbrev TDO := DEnv → Mu → (Option Int → Mu → Prop) → DX → Prop
def tLO (K : PySem.W.Frag) (E : XK) (t : TDO) : L2.St → Hp → (Option Int → Hp → Prop) → Prop := fun st H Qv => ∃ (tau : DEnv) (m : Mu) (Q : Option Int → Mu → Prop) (Ex : DX), Rp K m H st tau ∧ t tau m Q Ex ∧
  (∀ b H' m', MuOk K m' H' → Fr m H m' H' → Q b m' → Qv b H') ∧ XOk K E m H Ex
def dNoPart : TDO := fun _ m Q _ => Q none m
def dPart (t : TD) : TDO := fun tau m Q Ex => t tau m (fun d m1 => ∃ i, d = .int i ∧ Q (some i) m1) Ex
theorem do_none : PO X none (tLO X.K E dNoPart) := ⟨fun pins s st H Q I ⟨tau, m, QQ, Ex, rp, h, k, x⟩ => po_none.run pins s st H Q I (k none H m rp.mu .refl h)⟩
theorem do_some {e : Expr} {t : TD} (he : PE X e (tL X.K E t)) : PO X (some e) (tLO X.K E (dPart t)) := ⟨fun pins s st H Q I ⟨tau, m, QQ, Ex, rp, h, k, x⟩ => (po_some he).run pins s st H Q I ⟨tau, m, _, Ex, rp, h, fun v d H' m' a f dv ⟨i, e, q⟩ => by
  subst e
  cases dv
  exact ⟨i, rfl, k _ _ _ a f q⟩, x⟩⟩
/-- the cut of a list -/
def cutD {α : Type} (xs : List α) (lo hi : Option Int) : List α := (xs.drop (HT.sIx xs.length 0 lo)).take (HT.sIx xs.length xs.length hi - HT.sIx xs.length 0 lo)
theorem cut_dv {K : PySem.W.Frag} {G : Hp} {xs : List V} {ds : List D} (r : DvAll K G xs ds) (lo hi : Option Int) : DvAll K G (cutV xs lo hi) (cutD ds lo hi) := by
  unfold cutV cutD
  rw [r.length]
  exact (r.drop _).take _
def rdSl (mk : Bool) : D → Option Int → Option Int → Mu → DQ → Prop
  | .str z, lo, hi, m, Q => z.length ≤ sizeLine ∧ Q (.str (cutS z lo hi)) m
  | .tup ds, lo, hi, m, Q => Q (.tup (cutD ds lo hi)) m
  | e, lo, hi, m, Q => ∃ ds, lsD m e = some ds ∧ mkL mk (cutD ds lo hi) m Q
def dSl (rd : D → Option Int → Option Int → Mu → DQ → Prop) (t : TD) (tl th : TDO) : TD := fun tau m Q Ex => t tau m (fun d m1 => tl tau m1 (fun lo m2 => th tau m2 (fun hi m3 => rd d lo hi m3 Q) Ex) Ex) Ex
theorem cut_all {α : Type} {xs : List α} {lo hi : Option Int} (e1 : HT.sIx xs.length 0 lo = 0) (e2 : HT.sIx xs.length xs.length hi = xs.length) : cutD xs lo hi = xs := by
  unfold cutD
  rw [e1, e2, List.drop_zero, Nat.sub_zero, List.take_length]
theorem de_slice {e : Expr} {lo hi : Option Expr} {p2 pos : Pos} {mk : Bool} {t : TD} {tl th : TDO} (he : PE X e (tL X.K E t)) (hl : PO X lo (tLO X.K E tl)) (hh : PO X hi (tLO X.K E th)) :
    PE X (.Subscript e (.Slice lo hi none p2) pos) (tL X.K E (dSl (rdSl mk) t tl th)) :=
  pe_imp (pe_slice (SlR.or sl_list (SlR.or sl_tupA sl_str)) he hl hh) fun st H Qv ⟨tau, m, Q, Ex, rp, h, k, x⟩ => by
    refine ⟨tau, m, _, Ex, rp, h, fun v d H1 m1 a1 f1 dv1 h1 => ?_, x⟩
    refine ⟨tau, m1, _, Ex, rp.step a1 f1, h1, fun lo H2 m2 a2 f2 h2 => ?_, x.step f1⟩
    refine ⟨tau, m2, _, Ex, (rp.step a1 f1).step a2 f2, h2, fun hi H3 m3 a3 f3 h3 => ?_, (x.step f1).step f2⟩
    have dv3 := dv1.mono (f2.trans f3).same
    have kk := fun v' d' H' m' a f => k v' d' H' m' a (((f1.trans f2).trans f3).trans f)
    unfold rdSl at h3
    split at h3
    · cases dv3
      exact .inr (.inr ⟨_, rfl, h3.1, kk _ _ _ _ a3 .refl (.str _) h3.2⟩)
    · rename_i ds
      have dv3' := dv3
      obtain ⟨p, xs, rfl, hr, hx⟩ := tup_ok dv3
      refine .inr (.inl ⟨p, xs, rfl, hr, fun ⟨e1, e2⟩ => ?_, fun _ => mkT_ok a3 (cut_dv hx lo hi) (Nat.le_trans (cutV_length _ _ _) (by rw [hx.length]; exact tup_len dv3)) h3 kk⟩)
      rw [hx.length] at e1 e2
      rw [cut_all e1 e2] at h3
      exact kk _ _ _ _ a3 .refl dv3 h3
    · obtain ⟨ds, e1, h4⟩ := h3
      obtain ⟨p, xs, rfl, hr, hx⟩ := lsD_ok a3 dv3 e1
      exact .inl ⟨p, xs, rfl, hr.sq, mkL_ok a3 (cut_dv hx lo hi) (Nat.le_trans (cutV_length _ _ _) hr.len) h4 kk⟩
/-! ### stores x[i] = v, d[k] = v -/
def dgSub (to ti : TD) : TDG := fun v tau m Q Ex => to tau m (fun o m1 => ti tau m1 (fun i m2 => ∃ p ds n j, o = .ref p ∧ i = .int n ∧ m2 p = some (.lst ds) ∧ ixN ds.length n = some j ∧ Q tau (updM m2 p (.lst (ds.set j v)))) Ex) Ex
theorem dg_sub {o i : Expr} {pos : Pos} {to ti : TD} (h0 : PG X (.Subscript o i pos) (gSub (tL X.K E to) (tL X.K E ti) rSetL)) : PG X (.Subscript o i pos) (tLG X.K E (dgSub to ti)) :=
  pg_imp h0 fun v st H Q ⟨d, tau, m, QQ, Ex, rp, dv, h, k, x⟩ => by
    refine ⟨tau, m, _, Ex, rp, h, fun v1 d1 H1 m1 a1 f1 dv1 h1 => ?_, x⟩
    refine ⟨tau, m1, _, Ex, rp.step a1 f1, h1, fun v2 d2 H2 m2 a2 f2 dv2 ⟨p, ds, n, j, e1, e2, hp, hj, q⟩ => ?_, x.step f1⟩
    subst e1 e2
    cases dv1
    cases dv2
    obtain ⟨xs, hx, hlen, hr⟩ := a2 p _ hp
    have dv3 := dv.mono (f1.trans f2).same
    refine ⟨p, xs, n, j, rfl, rfl, hx, by rw [hr.length]; exact hj, ?_⟩
    exact k _ _ _ _ ⟨a2.setM (x := .lst (ds.set j d)) hp ⟨_, rfl, by rw [List.length_set]; exact hlen, hr.set dv3 j⟩, (((rp.step a1 f1).step a2 f2).env).mono (Fr.setM hp).same⟩ ((f1.trans f2).trans (.setM hp)) q
def dDPut (td ty tv : TD) : TDS := fun D tau m => tv tau m (fun v m1 => td tau m1 (fun x m2 => ty tau m2 (fun y m3 => ∃ p kvs k, x = .ref p ∧ y = kD k ∧ m3 p = some (.dic kvs) ∧ kvs.length < sizeLine ∧ D.nx tau (updM m3 p (.dic (putD kvs k v)))) D.ex) D.ex) D.ex
theorem ds_dput {o i value : Expr} {pos pos' : Pos} {td ty tv : TD} (hu : X.A.units + 1 < cLine) (ho : PE X o (tL X.K E td)) (hi : PE X i (tL X.K E ty)) (hv : PE X value (tL X.K E tv)) (hs : swapsWith value (some (.Subscript o i pos')) pos.line X.env = pure false := by rfl) :
    PS X (.Assign [.Subscript o i pos'] value pos) (tLS X.K E (dDPut td ty tv)) := ps_imp (ps_dput hu ho hi hv hs) fun D st H ⟨tau, m, DD, rp, h, l⟩ => by
    refine ⟨tau, m, _, DD.ex, rp, h, fun v d H1 m1 a1 f1 dv1 h1 => ?_, l.ex⟩
    refine ⟨tau, m1, _, DD.ex, rp.step a1 f1, h1, fun v2 d2 H2 m2 a2 f2 dv2 h2 => ?_, l.ex.step f1⟩
    refine ⟨tau, m2, _, DD.ex, (rp.step a1 f1).step a2 f2, h2, fun v3 d3 H3 m3 a3 f3 dv3 ⟨p, kvs, ky, e1, e2, hp, hl, q⟩ => ?_, (l.ex.step f1).step f2⟩
    subst e1 e2
    cases dv2
    obtain ⟨xs, hx, hr⟩ := a3 p _ hp
    have f13 := (f1.trans f2).trans f3
    refine ⟨p, _, rfl, .inl ⟨xs, ky, hx, kD_inv dv3, by rw [hr.length]; exact hl, rfl⟩, l.nx _ _ _ _ ⟨a3.setM (x := .dic (putD kvs ky d)) hp ⟨_, rfl, hr.put (dv1.mono (f2.trans f3).same)⟩, ?_⟩ (f13.trans (.setM hp)) q⟩
    exact ((((rp.step a1 f1).step a2 f2).step a3 f3).env).mono (Fr.setM hp).same
def dDNew : TD := fun _ m Q _ => ∀ p, m p = none → Q (.ref p) (updM m p (.dic []))
def dDNewF : TD := fun _ m Q _ => Q (.dic []) m
theorem de_dnew {pos : Pos} : PE X (.Dict [] [] pos) (tL X.K E dDNew) := pe_imp pe_dnewK fun st H Qv ⟨tau, m, Q, Ex, rp, h, k, x⟩ => fun p n => k _ _ _ _ (rp.mu.newM (x := .dic []) n ⟨[], rfl, .nil⟩) (.newM n) (.ref p) (h p (rp.mu.fresh n))
theorem de_dnewF {pos : Pos} : PE X (.Dict [] [] pos) (tL X.K E dDNewF) := pe_imp pe_dnewK fun st H Qv ⟨tau, m, Q, Ex, rp, h, k, x⟩ => fun p n => k _ _ _ _ (rp.mu.froz n) (.new n) (.dic (hid_at (rp.mu.fresh n)) .nil) h
/-! ### what is walked -/
def diL (t : TD) : TDI := fun tau m QQ Ex => t tau m (fun d m1 => ∃ items, lsD m1 d = some items ∧ (items.length ≤ sizeLine → QQ items (fun m' => lsD m' d = some items) m1)) Ex
theorem io_list {t : TD} : IOk X.K E (iList X.K (tL X.K E t)) (diL t) := fun st H R tau m QQ Ex rp h x k =>
  ⟨tau, m, _, Ex, rp, h, fun v d H1 m1 a1 f1 dv1 ⟨items, e, q⟩ => by
    obtain ⟨p, xs, rfl, hr, hx⟩ := lsD_ok a1 dv1 e
    refine ⟨p, rfl, ⟨xs, hr.sq⟩, k _ H1 m1 items _ a1 f1 ⟨fun i H' m' hi a' f' kp => ?_, fun H' m' a' f' kp => ?_, fun i H' m' x H'' hi a' f' kp y => ?_⟩ (q (by rw [← hx.length]; exact hr.len))⟩
    · obtain ⟨p', xs', e', hr', hx'⟩ := lsD_ok a' (dv1.mono f'.same) kp
      cases e'
      have hl := hx'.length
      exact ⟨xs', xs'[i], hr'.sq, by simp [hl, hi]⟩
    · obtain ⟨p', xs', e', hr', hx'⟩ := lsD_ok a' (dv1.mono f'.same) kp
      cases e'
      exact ⟨xs', hr'.sq, Nat.le_of_eq hx'.length⟩
    · obtain ⟨p', xs', e', hr', hx'⟩ := lsD_ok a' (dv1.mono f'.same) kp
      cases e'
      obtain ⟨e1, y⟩ := y
      subst e1
      obtain ⟨z, h1, h2⟩ := hx'.get2 (y xs' (hr'.sq))
      exact ⟨z, h1, a', .refl, h2⟩, x⟩
def diT (t : TD) : TDI := fun tau m QQ Ex => t tau m (fun d m1 => ∃ items, d = .tup items ∧ (items.length ≤ sizeLine → QQ items (fun _ => True) m1)) Ex
theorem io_tup {t : TD} : IOk X.K E (iTup X.K (tL X.K E t)) (diT t) := fun st H R tau m QQ Ex rp h x k =>
  ⟨tau, m, _, Ex, rp, h, fun v d H1 m1 a1 f1 dv1 ⟨items, e, q⟩ => by
    subst e
    have tl := tup_len dv1
    obtain ⟨p, xs, rfl, hr, hx⟩ := tup_ok dv1
    refine ⟨p, rfl, ⟨xs, hr⟩, k _ H1 m1 items _ a1 f1 ⟨fun i H' m' hi a' f' kp => ?_, fun H' m' a' f' kp => ?_, fun i H' m' x H'' hi a' f' kp y => ?_⟩ (q tl)⟩
    · obtain ⟨p', xs', e', hr', hx'⟩ := tup_ok (dv1.mono f'.same)
      cases e'
      have hl := hx'.length
      exact ⟨xs', xs'[i], hr', by simp [hl, hi]⟩
    · obtain ⟨p', xs', e', hr', hx'⟩ := tup_ok (dv1.mono f'.same)
      cases e'
      exact ⟨xs', hr', Nat.le_of_eq hx'.length⟩
    · obtain ⟨p', xs', e', hr', hx'⟩ := tup_ok (dv1.mono f'.same)
      cases e'
      obtain ⟨e1, y⟩ := y
      subst e1
      obtain ⟨z, h1, h2⟩ := hx'.get2 (y xs' hr')
      exact ⟨z, h1, a', .refl, h2⟩, x⟩
/-- lo, lo + 1, .. -/
def rangeD (lo : Int) (n : Nat) : List D := (List.range n).map fun i => .int (lo + (i : Nat))
theorem wk_range {K : PySem.W.Frag} {lo : Int} {n : Nat} {m0 : Mu} {H0 : Hp} : DWalk K (Itr lo n) (rangeD lo n) (fun _ => True) m0 H0 :=
  ⟨fun i H m hi _ _ _ => by simpa [rangeD, Itr] using hi, fun H m _ _ _ => by simp [rangeD, Itr], fun i H m x H' hi a f _ y => by
    obtain ⟨e1, e2⟩ := y
    subst e1 e2
    have hi' : i < n := by simpa [rangeD] using hi
    exact ⟨.int (lo + (i : Nat)), by simp [rangeD, hi'], a, .refl, .int _⟩⟩
def diR1 (t : TDA) : TDI := fun tau m QQ Ex => t tau m (fun ds m1 => ∃ j : Int, ds = [.int j] ∧ -(2 ^ 62) ≤ j ∧ j < 2 ^ 62 ∧ QQ (rangeD 0 j.toNat) (fun _ => True) m1) Ex
theorem io_r1 {t : TDA} : IOk X.K E (iRng1 (tLA X.K E t)) (diR1 t) := fun st H R tau m QQ Ex rp h x k =>
  ⟨tau, m, _, Ex, rp, h, fun v d H1 m1 a1 f1 dv1 ⟨j, e, h1, h2, q⟩ => by
    subst e
    cases dv1 with
    | cons d1 d2 =>
      cases d1; cases d2
      exact ⟨j, rfl, h1, h2, k _ _ _ _ _ a1 f1 wk_range q⟩, x⟩
def diR2 (t : TDA) : TDI := fun tau m QQ Ex => t tau m (fun ds m1 => ∃ i j : Int, ds = [.int i, .int j] ∧ (-(2 ^ 62) ≤ i ∧ i < 2 ^ 62 ∧ -(2 ^ 62) ≤ j ∧ j < 2 ^ 62) ∧ QQ (rangeD i (j - i).toNat) (fun _ => True) m1) Ex
theorem io_r2 {t : TDA} : IOk X.K E (iRng2 (tLA X.K E t)) (diR2 t) := fun st H R tau m QQ Ex rp h x k =>
  ⟨tau, m, _, Ex, rp, h, fun v d H1 m1 a1 f1 dv1 ⟨i, j, e, h1, q⟩ => by
    subst e
    cases dv1 with
    | cons d1 d2 =>
      cases d2 with
      | cons d2 d3 =>
        cases d1; cases d2; cases d3
        exact ⟨i, j, rfl, h1, k _ _ _ _ _ a1 f1 wk_range q⟩, x⟩
def charsD (z : Str) : List D := z.cps.toList.map fun c => .str ⟨#[c]⟩
def diS (t : TD) : TDI := fun tau m QQ Ex => t tau m (fun d m1 => ∃ z, d = .str z ∧ QQ (charsD z) (fun _ => True) m1) Ex
theorem io_str {t : TD} : IOk X.K E (iStr (tL X.K E t)) (diS t) := fun st H R tau m QQ Ex rp h x k =>
  ⟨tau, m, _, Ex, rp, h, fun v d H1 m1 a1 f1 dv1 ⟨z, e, q⟩ => by
    subst e
    cases dv1
    refine ⟨z, rfl, k _ _ _ _ _ a1 f1 ⟨fun i H m hi _ _ _ => by simpa [charsD, Its] using hi, fun H m _ _ _ => by simp [charsD, Its], fun i H m x H' hi a f _ y => ?_⟩ q⟩
    obtain ⟨e1, c, e2, e3⟩ := y
    subst e1 e3
    exact ⟨.str ⟨#[c]⟩, by simp [charsD, e2], a, .refl, .str _⟩, x⟩
def enumD : Nat → List D → List D
  | _, [] => []
  | k, d :: r => .tup [.int (k : Nat), d] :: enumD (k + 1) r
theorem enumD_length : ∀ (k : Nat) (ds : List D), (enumD k ds).length = ds.length
  | _, [] => rfl
  | k, _ :: r => congrArg (· + 1) (enumD_length (k + 1) r)
theorem enumD_get : ∀ (k : Nat) (ds : List D) (i : Nat), (enumD k ds)[i]? = ds[i]?.map fun d => .tup [.int ((k + i : Nat) : Int), d]
  | _, [], i => by simp [enumD]
  | k, d :: r, 0 => by simp [enumD]
  | k, d :: r, i + 1 => by
    have := enumD_get (k + 1) r i
    simp only [enumD, List.getElem?_cons_succ]
    rw [this, show k + 1 + i = k + (i + 1) by omega]
theorem new_pair {K : PySem.W.Frag} {m : Mu} {H : Hp} {T : Addr} {x y : V} {d e : D} (a : MuOk K m H) (n : H T = none) (h1 : Dv K (hid m H) x d) (h2 : Dv K (hid m H) y e) :
    MuOk K m (upd H T (.tup [x, y])) ∧ Fr m H m (upd H T (.tup [x, y])) ∧ Dv K (hid m (upd H T (.tup [x, y]))) (.ref T) (.tup [d, e]) := by
  have f : Fr m H m (upd H T (.tup [x, y])) := .new n
  exact ⟨a.froz n, f, .tup (.inl (.inl (hid_at (a.fresh n)))) (by show 2 ≤ sizeLine; decide) (.cons (h1.mono f.same) (.cons (h2.mono f.same) .nil))⟩
def diEn (t : TDA) : TDI := fun tau m QQ Ex => t tau m (fun ds m1 => ∃ d items, ds = [d] ∧ lsD m1 d = some items ∧ (items.length ≤ sizeLine → QQ (enumD 0 items) (fun m' => lsD m' d = some items) m1)) Ex
theorem io_enum {t : TDA} : IOk X.K E (iEnum X.K (tLA X.K E t)) (diEn t) := fun st H R tau m QQ Ex rp h x k =>
  ⟨tau, m, _, Ex, rp, h, fun v ds H1 m1 a1 f1 dv1 ⟨d, items, e0, e, q⟩ => by
    subst e0
    cases dv1 with
    | cons dv1 dv2 =>
    cases dv2
    obtain ⟨p, xs, rfl, hr, hx⟩ := lsD_ok a1 dv1 e
    refine ⟨p, xs, rfl, hr.sq, k _ H1 m1 _ _ a1 f1 ⟨fun i H' m' hi a' f' kp => ?_, fun H' m' a' f' kp => ?_, fun i H' m' x H'' hi a' f' kp y => ?_⟩ (q (by rw [← hx.length]; exact hr.len))⟩
    · obtain ⟨p', xs', e', hr', hx'⟩ := lsD_ok a' (dv1.mono f'.same) kp
      cases e'
      have hl := hx'.length
      rw [enumD_length] at hi
      exact ⟨xs', xs'[i], hr'.sq, by simp [hl, hi]⟩
    · obtain ⟨p', xs', e', hr', hx'⟩ := lsD_ok a' (dv1.mono f'.same) kp
      cases e'
      rw [enumD_length]
      exact ⟨xs', hr'.sq, Nat.le_of_eq hx'.length⟩
    · obtain ⟨p', xs', e', hr', hx'⟩ := lsD_ok a' (dv1.mono f'.same) kp
      cases e'
      obtain ⟨T, u, e1, nT, e2, y⟩ := y
      subst e1 e2
      obtain ⟨z, h1, h2⟩ := hx'.get2 (y xs' (hr'.sq))
      obtain ⟨b1, b2, b3⟩ := new_pair a' nT (.int ((i : Nat) : Int)) h2
      exact ⟨_, by rw [enumD_get, h1, Nat.zero_add]; rfl, b1, b2, b3⟩, x⟩
def zipD (xs ys : List D) : List D := List.zipWith (fun a b => .tup [a, b]) xs ys
def diZ (t : TDA) : TDI := fun tau m QQ Ex => t tau m (fun ds m1 => ∃ d e xs ys, ds = [d, e] ∧ lsD m1 d = some xs ∧ lsD m1 e = some ys ∧ (xs.length ≤ sizeLine → ys.length ≤ sizeLine → QQ (zipD xs ys) (fun m' => lsD m' d = some xs ∧ lsD m' e = some ys) m1)) Ex
theorem io_zip {t : TDA} : IOk X.K E (iZip X.K (tLA X.K E t)) (diZ t) := fun st H R tau m QQ Ex rp h x k =>
  ⟨tau, m, _, Ex, rp, h, fun v ds H1 m1 a1 f1 dv1 ⟨d, e, xs, ys, e0, e1, e2, q⟩ => by
    subst e0
    cases dv1 with
    | cons dv1 dv2 =>
    cases dv2 with
    | cons dv2 dv3 =>
    cases dv3
    obtain ⟨p, us, rfl, hr, hx⟩ := lsD_ok a1 dv1 e1
    obtain ⟨p2, us2, rfl, hr2, hx2⟩ := lsD_ok a1 dv2 e2
    have hz : (zipD xs ys).length = min xs.length ys.length := by simp [zipD]
    refine ⟨p, p2, us, us2, rfl, hr.sq, hr2.sq, k _ H1 m1 _ _ a1 f1 ⟨fun i H' m' hi a' f' kp => ?_, fun H' m' a' f' kp => ?_, fun i H' m' x H'' hi a' f' kp y => ?_⟩ (q (by rw [← hx.length]; exact hr.len) (by rw [← hx2.length]; exact hr2.len))⟩
    · obtain ⟨p', xs', e', hr', hx'⟩ := lsD_ok a' (dv1.mono f'.same) kp.1
      cases e'
      obtain ⟨p', ys', e', hr2', hx2'⟩ := lsD_ok a' (dv2.mono f'.same) kp.2
      cases e'
      have hl := hx'.length
      have hl2 := hx2'.length
      rw [hz] at hi
      exact ⟨xs', ys', xs'[i], ys'[i], hr'.sq, hr2'.sq, by simp [show i < xs'.length by omega], by simp [show i < ys'.length by omega]⟩
    · obtain ⟨p', xs', e', hr', hx'⟩ := lsD_ok a' (dv1.mono f'.same) kp.1
      cases e'
      obtain ⟨p', ys', e', hr2', hx2'⟩ := lsD_ok a' (dv2.mono f'.same) kp.2
      cases e'
      have hl := hx'.length
      have hl2 := hx2'.length
      rw [hz]
      exact ⟨xs', ys', hr'.sq, hr2'.sq, by omega⟩
    · obtain ⟨p', xs', e', hr', hx'⟩ := lsD_ok a' (dv1.mono f'.same) kp.1
      cases e'
      obtain ⟨p', ys', e', hr2', hx2'⟩ := lsD_ok a' (dv2.mono f'.same) kp.2
      cases e'
      obtain ⟨T, u, w, e1, nT, e2, y1, y2⟩ := y
      subst e1 e2
      obtain ⟨z, h1, h2⟩ := hx'.get2 (y1 xs' (hr'.sq))
      obtain ⟨z2, h3, h4⟩ := hx2'.get2 (y2 ys' (hr2'.sq))
      obtain ⟨b1, b2, b3⟩ := new_pair a' nT h2 h4
      exact ⟨_, by simp [zipD, List.getElem?_zipWith, h1, h3], b1, b2, b3⟩, x⟩
end
end
end DL
/-! DL5: methods of built-in types, built-in functions, isinstance, repr. -/
namespace DL
open PySem PySem.Spec PyProof.Rows L2
section
variable {K : PySem.W.Frag}
/-- a call by values, over trees -/
abbrev RDC := List D → Mu → DQ → Prop
def COp (K : PySem.W.Frag) (r : List V → Hp → VK → Prop) (rd : RDC) : Prop := ∀ (vs : List V) (ds : List D) (H : Hp) (m : Mu) (Q : DQ) (Qv : VK), MuOk K m H → DvAll K (hid m H) vs ds → rd ds m Q →
  (∀ v' d' H' m', MuOk K m' H' → Fr m H m' H' → Dv K (hid m' H') v' d' → Q d' m' → Qv v' H') → r vs H Qv
abbrev RDM := D → List D → Mu → DQ → Prop
def MOp (K : PySem.W.Frag) (r : V → List V → Hp → VK → Prop) (rd : RDM) : Prop := ∀ (v : V) (d : D) (vs : List V) (ds : List D) (H : Hp) (m : Mu) (Q : DQ) (Qv : VK), MuOk K m H → Dv K (hid m H) v d → DvAll K (hid m H) vs ds → rd d ds m Q →
  (∀ v' d' H' m', MuOk K m' H' → Fr m H m' H' → Dv K (hid m' H') v' d' → Q d' m' → Qv v' H') → r v vs H Qv
def TyOk (K : PySem.W.Frag) (T : String) (ty : D → Mu → Prop) : Prop := ∀ v d H m, MuOk K m H → Dv K (hid m H) v d → ty d m → tyV K T v H
def dCB (rd : RDC) (t : TDA) : TD := fun tau m Q Ex => t tau m (fun ds m1 => rd ds m1 Q) Ex
def dBM (ty : D → Mu → Prop) (rd : RDM) (to : TD) (t : TDA) : TD := fun tau m Q Ex => to tau m (fun d m1 => ty d m1 ∧ t tau m1 (fun ds m2 => rd d ds m2 Q) Ex) Ex
def dBM0 (ty : D → Mu → Prop) (rd : RDM) (to : TD) : TD := fun tau m Q Ex => to tau m (fun d m1 => ty d m1 ∧ rd d [] m1 Q) Ex
theorem lift_cb {E : XK} {r : List V → Hp → VK → Prop} {rd : RDC} {t : TDA} (o : COp K r rd) : ∀ st H Q, tL K E (dCB rd t) st H Q → tCB r (tLA K E t) st H Q := fun st H Qv ⟨tau, m, Q, Ex, rp, h, k, x⟩ =>
  ⟨tau, m, _, Ex, rp, h, fun vs ds H1 m1 a1 f1 dv1 h1 => o vs ds H1 m1 Q Qv a1 dv1 h1 fun v' d' H' m' a f => k v' d' H' m' a (f1.trans f), x⟩
theorem lift_bm {E : XK} {T : String} {ty : D → Mu → Prop} {r : V → List V → Hp → VK → Prop} {rd : RDM} {to : TD} {t : TDA} (ot : TyOk K T ty) (o : MOp K r rd) : ∀ st H Q, tL K E (dBM ty rd to t) st H Q → tBM K T r (tL K E to) (tLA K E t) st H Q := fun st H Qv ⟨tau, m, Q, Ex, rp, h, k, x⟩ =>
  ⟨tau, m, _, Ex, rp, h, fun v d H1 m1 a1 f1 dv1 h1 => ⟨ot v d H1 m1 a1 dv1 h1.1, tau, m1, _, Ex, rp.step a1 f1, h1.2, fun vs ds H2 m2 a2 f2 dv2 h2 => o v d vs ds H2 m2 Q Qv a2 (dv1.mono f2.same) dv2 h2 fun v' d' H' m' a f => k v' d' H' m' a ((f1.trans f2).trans f), x.step f1⟩, x⟩
theorem lift_bm0 {E : XK} {T : String} {ty : D → Mu → Prop} {r : V → List V → Hp → VK → Prop} {rd : RDM} {to : TD} (ot : TyOk K T ty) (o : MOp K r rd) : ∀ st H Q, tL K E (dBM0 ty rd to) st H Q → tBM0 K T r (tL K E to) st H Q := fun st H Qv ⟨tau, m, Q, Ex, rp, h, k, x⟩ =>
  ⟨tau, m, _, Ex, rp, h, fun v d H1 m1 a1 f1 dv1 h1 => ⟨ot v d H1 m1 a1 dv1 h1.1, o v d [] [] H1 m1 Q Qv a1 dv1 .nil h1.2 fun v' d' H' m' a f => k v' d' H' m' a (f1.trans f)⟩, x⟩
def tyL : D → Mu → Prop := fun d m => ∃ xs, lsD m d = some xs
def tyS : D → Mu → Prop := fun d _ => ∃ z, d = .str z
theorem tyL_ok : TyOk K "list" tyL := fun v d H m a r ⟨xs, e⟩ => by
  obtain ⟨p, us, rfl, h, _⟩ := lsD_ok a r e
  exact .inl ⟨rfl, us, h.sq⟩
theorem tyS_ok : TyOk K "str" tyS := fun v d H m a r ⟨xs, e⟩ => by
  subst e
  cases r
  rfl
theorem tyL_ref {m : Mu} {p : Addr} {ds : List D} (h : m p = some (.lst ds)) : tyL (.ref p) m := ⟨ds, lsD_ref h⟩
/-! ### methods of lists -/
theorem DvAll.dropLast {G : Hp} {xs : List V} {ds : List D} (r : DvAll K G xs ds) : DvAll K G xs.dropLast ds.dropLast := by
  rw [List.dropLast_eq_take, List.dropLast_eq_take, r.length]
  exact r.take _
theorem DvAll.eraseIdx {G : Hp} : ∀ {xs : List V} {ds : List D} (k : Nat), DvAll K G xs ds → DvAll K G (xs.eraseIdx k) (ds.eraseIdx k)
  | _, _, _, .nil => .nil
  | _, _, 0, .cons _ r => r
  | _, _, k + 1, .cons h r => .cons h (DvAll.eraseIdx k r)
theorem DvAll.reverse {G : Hp} : ∀ {xs : List V} {ds : List D}, DvAll K G xs ds → DvAll K G xs.reverse ds.reverse
  | _, _, .nil => .nil
  | _, _, .cons h r => by
    rw [List.reverse_cons, List.reverse_cons]
    exact (DvAll.reverse r).append (.cons h .nil)
section
variable {m : Mu} {H : Hp} {Q : DQ} {Qv : VK}
theorem mut_ok {v : V} {d : D} {p : Addr} {y : MO} {xs : List V} {ds : List D} (a : MuOk K m H) (hp : m p = some y) (r : DvAll K (hid m H) xs ds) (hl : xs.length ≤ sizeLine) (dv : Dv K (hid m H) v d) (q : Q d (updM m p (.lst ds)))
    (k : ∀ v' d' H' m', MuOk K m' H' → Fr m H m' H' → Dv K (hid m' H') v' d' → Q d' m' → Qv v' H') : Qv v (upd H p (.lst xs)) := k _ _ _ _ (a.setM (x := .lst ds) hp ⟨_, rfl, hl, r⟩) (.setM hp) (dv.mono (Fr.setM hp).same) q
end
def rdAppend : RDM := fun d es m Q => ∃ p ds e, d = .ref p ∧ es = [e] ∧ m p = some (.lst ds) ∧ ds.length < sizeLine ∧ Q .non (updM m p (.lst (ds ++ [e])))
theorem o_append : MOp K rAppend rdAppend := fun v d vs es H m Q Qv a r1 r2 ⟨p, ds, e, h1, h2, hp, hl, q⟩ k => by
  subst h1 h2
  cases r1
  cases r2 with
  | cons r2 r3 =>
    cases r3
    obtain ⟨xs, hx, hlen, hr⟩ := a p _ hp
    exact ⟨p, xs, _, rfl, rfl, hx, by rw [hr.length]; exact hl, mut_ok a hp (hr.append (.cons r2 .nil)) (by rw [List.length_append, hr.length]; exact hl) .non q k⟩
def lsT (m : Mu) : D → Option (List D)
  | .lst ds => some ds
  | .ref p => match m p with
    | some (.lst ds) => some ds
    | _ => none
  | _ => none
theorem lsT_ref {m : Mu} {p : Addr} {ds : List D} (h : m p = some (.lst ds)) : lsT m (.ref p) = some ds := by
  show (match m p with | some (.lst ds) => some ds | _ => none) = _
  rw [h]
theorem lsT_ok {m : Mu} {H : Hp} {v : V} {d : D} {ds : List D} (a : MuOk K m H) (r : Dv K (hid m H) v d) (e : lsT m d = some ds) : ∃ p xs, v = .ref p ∧ H p = some (.lst xs) ∧ DvAll K (hid m H) xs ds := by
  cases r with
  | lst h _ q =>
    cases e
    exact ⟨_, _, rfl, (of_hid h).2, q⟩
  | ref p =>
    have e : (match m p with | some (.lst ds) => some ds | _ => none) = some ds := e
    cases q : m p with
    | none => rw [q] at e; cases e
    | some o =>
      rw [q] at e
      cases o with
      | lst xs =>
        cases e
        obtain ⟨xs, h1, _, h2⟩ := a p _ q
        exact ⟨_, _, rfl, h1, h2⟩
      | dic _ => cases e
      | ins _ _ => cases e
  | _ => cases e
def rdExtend : RDM := fun d es m Q => ∃ p ds e zs, d = .ref p ∧ es = [e] ∧ m p = some (.lst ds) ∧ lsT m e = some zs ∧ ds.length + zs.length ≤ sizeLine ∧ Q .non (updM m p (.lst (ds ++ zs)))
theorem o_extend : MOp K rExtend rdExtend := fun v d vs es H m Q Qv a r1 r2 ⟨p, ds, e, zs, h1, h2, hp, hz, hl, q⟩ k => by
  subst h1 h2
  cases r1
  cases r2 with
  | cons r2 r3 =>
    cases r3
    obtain ⟨xs, hx, hlen, hr⟩ := a p _ hp
    obtain ⟨p2, ys, e2, hy, hs⟩ := lsT_ok a r2 hz
    subst e2
    exact ⟨p, p2, xs, ys, rfl, rfl, hx, hy, by rw [hr.length, hs.length]; exact hl, mut_ok a hp (hr.append hs) (by rw [List.length_append, hr.length, hs.length]; exact hl) .non q k⟩
def rdPop : RDM := fun d es m Q => ∃ p ds z, d = .ref p ∧ es = [] ∧ m p = some (.lst ds) ∧ ds[ds.length - 1]? = some z ∧ Q z (updM m p (.lst ds.dropLast))
theorem o_pop : MOp K rPop rdPop := fun v d vs es H m Q Qv a r1 r2 ⟨p, ds, z, h1, h2, hp, hz, q⟩ k => by
  subst h1 h2
  cases r1
  cases r2
  obtain ⟨xs, hx, hlen, hr⟩ := a p _ hp
  obtain ⟨u, h3, h4⟩ := hr.get hz
  rw [← hr.length] at h3
  exact ⟨p, xs, u, rfl, rfl, hx, h3, mut_ok a hp hr.dropLast (by rw [List.length_dropLast]; omega) h4 q k⟩
def rdPopAt : RDM := fun d es m Q => ∃ p ds z i j, d = .ref p ∧ es = [.int i] ∧ m p = some (.lst ds) ∧ -(2 ^ 63) ≤ i ∧ i < 2 ^ 63 ∧ ixN ds.length i = some j ∧ ds[j]? = some z ∧ Q z (updM m p (.lst (ds.eraseIdx j)))
theorem o_popAt : MOp K rPopAt rdPopAt := fun v d vs es H m Q Qv a r1 r2 ⟨p, ds, z, i, j, h1, h2, hp, b1, b2, hj, hz, q⟩ k => by
  subst h1 h2
  cases r1
  cases r2 with
  | cons r2 r3 =>
    cases r3
    cases r2
    obtain ⟨xs, hx, hlen, hr⟩ := a p _ hp
    obtain ⟨u, h3, h4⟩ := hr.get hz
    exact ⟨p, xs, i, j, u, rfl, rfl, hx, b1, b2, by rw [hr.length]; exact (ixN_seq hj).1, h3, mut_ok a hp (hr.eraseIdx j) (Nat.le_trans (List.length_eraseIdx_le _ _) hlen) h4 q k⟩
def rdReverse : RDM := fun d es m Q => ∃ p ds, d = .ref p ∧ es = [] ∧ m p = some (.lst ds) ∧ Q .non (updM m p (.lst ds.reverse))
theorem o_reverse : MOp K rReverse rdReverse := fun v d vs es H m Q Qv a r1 r2 ⟨p, ds, h1, h2, hp, q⟩ k => by
  subst h1 h2
  cases r1
  cases r2
  obtain ⟨xs, hx, hlen, hr⟩ := a p _ hp
  exact ⟨p, xs, rfl, rfl, hx, mut_ok a hp hr.reverse (by rw [List.length_reverse]; exact hlen) .non q k⟩
def rdClear : RDM := fun d es m Q => ∃ p ds, d = .ref p ∧ es = [] ∧ m p = some (.lst ds) ∧ Q .non (updM m p (.lst []))
theorem o_clear : MOp K rClear rdClear := fun v d vs es H m Q Qv a r1 r2 ⟨p, ds, h1, h2, hp, q⟩ k => by
  subst h1 h2
  cases r1
  cases r2
  obtain ⟨xs, hx, hlen, hr⟩ := a p _ hp
  exact ⟨p, xs, rfl, rfl, hx, mut_ok a hp .nil (Nat.zero_le _) .non q k⟩
def rdInsert : RDM := fun d es m Q => ∃ p ds i e, d = .ref p ∧ es = [.int i, e] ∧ m p = some (.lst ds) ∧ ds.length < sizeLine ∧ 0 ≤ i ∧ i < 2 ^ 63 ∧ Q .non (updM m p (.lst (ds.take i.toNat ++ [e] ++ ds.drop i.toNat)))
theorem o_insert : MOp K (fun x vs H Q => ∃ (l : Addr) (xs : List V) (i : Int) (y : V), x = .ref l ∧ vs = [.int i, y] ∧ H l = some (.lst xs) ∧ xs.length < sizeLine ∧ 0 ≤ i ∧ i < 2 ^ 63 ∧ Q .non (upd H l (.lst (xs.take i.toNat ++ [y] ++ xs.drop i.toNat)))) rdInsert :=
  fun v d vs es H m Q Qv a r1 r2 ⟨p, ds, i, e, h1, h2, hp, hl, b1, b2, q⟩ k => by
  subst h1 h2
  cases r1
  cases r2 with
  | cons r2 r3 =>
    cases r2
    cases r3 with
    | cons r3 r4 =>
      cases r4
      obtain ⟨xs, hx, hlen, hr⟩ := a p _ hp
      exact ⟨p, xs, i, _, rfl, rfl, hx, by rw [hr.length]; exact hl, b1, b2, mut_ok a hp (((hr.take _).append (.cons r3 .nil)).append (hr.drop _)) (by
        have := hr.length
        rw [List.length_append, List.length_append, List.length_take, List.length_drop, List.length_singleton]; omega) .non q k⟩
/-- sorted ints -/
def sortI (ns : List Int) : List Int := ns.mergeSort fun a b => decide (a ≤ b)
theorem sortI_perm (ns : List Int) : (sortI ns).Perm ns := List.mergeSort_perm ns _
theorem sortI_sorted (ns : List Int) : (sortI ns).Pairwise (· ≤ ·) := by
  have h := List.pairwise_mergeSort (le := fun (a b : Int) => decide (a ≤ b)) (fun a b c h1 h2 => decide_eq_true (Int.le_trans (of_decide_eq_true h1) (of_decide_eq_true h2))) (fun a b => by
    rw [Bool.or_eq_true, decide_eq_true_eq, decide_eq_true_eq]
    exact Int.le_total a b) ns
  exact h.imp fun h => of_decide_eq_true h
theorem sorted_unique {xs ys : List Int} (hp : xs.Perm ys) (h1 : xs.Pairwise (· ≤ ·)) (h2 : ys.Pairwise (· ≤ ·)) : xs = ys :=
  hp.eq_of_pairwise (fun a b _ _ x y => Int.le_antisymm x y) h1 h2
theorem sortI_eq {xs ns : List Int} (hp : xs.Perm ns) (h1 : xs.Pairwise (· ≤ ·)) : xs = sortI ns := sorted_unique (hp.trans (sortI_perm ns).symm) h1 (sortI_sorted ns)
def rdSortI : RDM := fun d es m Q => ∃ (p : Addr) (ns : List Int), d = .ref p ∧ es = [] ∧ m p = some (.lst (ns.map D.int)) ∧ Q .non (updM m p (.lst ((sortI ns).map D.int)))
theorem o_sortI : MOp K rSortI rdSortI := fun v d vs es H m Q Qv a r1 r2 ⟨p, ns, h1, h2, hp, q⟩ k => by
  subst h1 h2
  cases r1
  cases r2
  obtain ⟨xs, hx, hlen, hr⟩ := a p _ hp
  have e := hr.inv_ints ns
  subst e
  refine ⟨p, ns, rfl, rfl, hx, fun ns' hp' hs => ?_⟩
  have e := sortI_eq hp' hs
  subst e
  exact mut_ok a hp (DvAll.ints _) (by rw [List.length_map, (sortI_perm ns).length_eq, ← List.length_map (f := V.int)]; exact hlen) .non q k
/-- the first place of an equal one, flat things -/
def rdIndex : RDM := fun d es m Q => ∃ (e : D) (ds : List D) (q : PyData) (ps : List PyData) (j : Nat) (z : PyData), es = [e] ∧ lsD m d = some ds ∧ PV m e q ∧ PVs m ds ps ∧ flatP q = true ∧ ps.all flatP = true ∧ ps[j]? = some z ∧ PyData.eqv z q = true ∧ (∀ (i : Nat) (z' : PyData), i < j → ps[i]? = some z' → PyData.eqv z' q = false) ∧ Q (.int (j : Nat)) m
theorem at_pv {m : Mu} {K : PySem.W.Frag} {G : Hp} {e : D} {q : PyData} {w : V} (h3 : PV m e q) (f1 : flatP q = true) (r2 : Dv K G w e) : ∀ {ds : List D} {ps : List PyData} {xs : List V} (i : Nat), PVs m ds ps → ps.all flatP = true → DvAll K G xs ds →
    (∀ z : PyData, ps[i]? = some z → ∃ u : V, xs[i]? = some u ∧ eqV u w = PyData.eqv z q) ∧ (∀ u : V, xs[i]? = some u → ∃ z : PyData, ps[i]? = some z ∧ eqV u w = PyData.eqv z q)
  | _, _, _, i, .nil, _, .nil => ⟨fun z e => by simp at e, fun z e => by simp at e⟩
  | _, _, _, 0, .cons h0 _, f, .cons r0 _ => by
    rw [List.all_cons, Bool.and_eq_true] at f
    exact ⟨fun z e => by simp at e; subst e; exact ⟨_, rfl, eq_pv h0 f.1 r0 h3 f1 r2⟩, fun u e => by simp at e; subst e; exact ⟨_, rfl, eq_pv h0 f.1 r0 h3 f1 r2⟩⟩
  | _, _, _, i + 1, .cons _ h1, f, .cons _ r1 => by
    rw [List.all_cons, Bool.and_eq_true] at f
    obtain ⟨x1, x2⟩ := at_pv h3 f1 r2 i h1 f.2 r1
    exact ⟨fun z e => by simpa using x1 z (by simpa using e), fun z e => by simpa using x2 z (by simpa using e)⟩
theorem o_index : MOp K (rIndex K) rdIndex := fun v d vs es H m Q Qv a r1 r2 ⟨e, ds, q, ps, j, z, h1, h2, h3, h4, f1, f2, hj, hz, hi, qq⟩ k => by
  subst h1
  cases r2 with
  | cons r2 r3 =>
    cases r3
    obtain ⟨p, xs, rfl, hr, hx⟩ := lsD_ok a r1 h2
    obtain ⟨u, hu, he⟩ := (at_pv h3 f1 r2 j h4 f2 hx).1 z hj
    obtain ⟨_, ff⟩ := inV_pv h3 f1 r2 h4 f2 hx
    refine ⟨p, xs, _, j, u, rfl, rfl, hr.sq, flat_pv h3 f1 r2, ff, hu, he.trans hz, fun i z' hlt e => ?_, k _ _ H m a .refl (.int _) qq⟩
    obtain ⟨z2, e2, e3⟩ := (at_pv h3 f1 r2 i h4 f2 hx).2 z' e
    exact e3.trans (hi i z2 hlt e2)
def rdCountI : RDM := fun d es m Q => ∃ (n : Int) (ns : List Int), es = [.int n] ∧ lsD m d = some (ns.map D.int) ∧ Q (.int (ns.count n : Nat)) m
theorem o_countI : MOp K (rCntI K) rdCountI := fun v d vs es H m Q Qv a r1 r2 ⟨n, ns, h1, h2, q⟩ k => by
  subst h1
  cases r2 with
  | cons r2 r3 =>
    cases r3
    cases r2
    obtain ⟨p, xs, rfl, hr, hx⟩ := lsD_ok a r1 h2
    have e := hx.inv_ints ns
    subst e
    exact ⟨p, ns, n, rfl, rfl, hr.sq, k _ _ H m a .refl (.int _) q⟩
def rdRemoveI : RDM := fun d es m Q => ∃ (p : Addr) (n : Int) (ns : List Int) (j : Nat), d = .ref p ∧ es = [.int n] ∧ m p = some (.lst (ns.map D.int)) ∧ ns[j]? = some n ∧ (∀ i : Nat, i < j → ns[i]? ≠ some n) ∧ Q .non (updM m p (.lst ((ns.eraseIdx j).map D.int)))
theorem o_removeI : MOp K rRemI rdRemoveI := fun v d vs es H m Q Qv a r1 r2 ⟨p, n, ns, j, h1, h2, hp, hj, hi, q⟩ k => by
  subst h1 h2
  cases r1
  cases r2 with
  | cons r2 r3 =>
    cases r3
    cases r2
    obtain ⟨xs, hx, hlen, hr⟩ := a p _ hp
    have e := hr.inv_ints ns
    subst e
    exact ⟨p, ns, n, j, rfl, rfl, hx, hj, hi, mut_ok a hp (DvAll.ints _) (by rw [List.length_map] at hlen ⊢; exact Nat.le_trans (List.length_eraseIdx_le _ _) hlen) .non q k⟩
/-! ### methods of texts -/
theorem DvAll.strs {G : Hp} : ∀ (ns : List Str), DvAll K G (ns.map V.str) (ns.map D.str)
  | [] => .nil
  | n :: r => .cons (.str n) (DvAll.strs r)
theorem DvAll.inv_strs {G : Hp} : ∀ {v : List V} (ns : List Str), DvAll K G v (ns.map D.str) → v = ns.map V.str
  | _, [], .nil => rfl
  | _, n :: r, .cons h q => by
    cases h
    rw [DvAll.inv_strs r q]; rfl
theorem DvAll.inv_bls {G : Hp} : ∀ {v : List V} (ns : List Bool), DvAll K G v (ns.map D.bl) → v = ns.map V.bl
  | _, [], .nil => rfl
  | _, n :: r, .cons h q => by
    cases h
    rw [DvAll.inv_bls r q]; rfl
def rdJoin : RDM := fun d es m Q => ∃ (x : Str) (e : D) (ys : List Str), d = .str x ∧ es = [e] ∧ (lsD m e = some (ys.map D.str) ∨ e = .tup (ys.map D.str)) ∧ (ys.map (·.length)).sum + ys.length * x.length ≤ 16777216 ∧ Q (.str (Txt.join x ys)) m
theorem o_join : MOp K (fun x xs H Q => ∃ a p, ∃ ys : List Str, x = .str a ∧ xs = [.ref p] ∧ (SqL K H p (ys.map V.str) ∨ SqT K H p (ys.map V.str)) ∧ (ys.map (·.length)).sum + ys.length * a.length ≤ 16777216 ∧ Q (.str (Txt.join a ys)) H) rdJoin :=
  fun v d vs es H m Q Qv a r1 r2 ⟨x, e, ys, h1, h2, h3, h4, q⟩ k => by
  subst h1 h2
  cases r1
  cases r2 with
  | cons r2 r3 =>
    cases r3
    rcases h3 with h3 | h3
    · obtain ⟨p, xs, rfl, hr, hx⟩ := lsD_ok a r2 h3
      have e := hx.inv_strs ys
      subst e
      exact ⟨x, p, ys, rfl, rfl, .inl hr.sq, h4, k _ _ H m a .refl (.str _) q⟩
    · subst h3
      obtain ⟨p, xs, rfl, hr, hx⟩ := tup_ok r2
      have e := hx.inv_strs ys
      subst e
      exact ⟨x, p, ys, rfl, rfl, .inr hr, h4, k _ _ H m a .refl (.str _) q⟩
def rdSplit (mk : Bool) : RDM := fun d es m Q => ∃ x y, d = .str x ∧ es = [.str y] ∧ (y.length == 0) = false ∧ x.length + 2 ≤ sizeLine ∧ ((Txt.split x y).map V.str).length ≤ sizeLine ∧ mkL mk ((Txt.split x y).map D.str) m Q
theorem o_split {mk : Bool} : MOp K (fun x xs H Q => ∃ a b, x = .str a ∧ xs = [.str b] ∧ (b.length == 0) = false ∧ a.length + 2 ≤ sizeLine ∧ rNewStrs (Txt.split a b) H Q) (rdSplit mk) := fun v d vs es H m Q Qv a r1 r2 ⟨x, y, h1, h2, h3, h4, h5, q⟩ k => by
  subst h1 h2
  cases r1
  cases r2 with
  | cons r2 r3 =>
    cases r3
    cases r2
    exact ⟨x, y, rfl, rfl, h3, h4, mkL_ok a (DvAll.strs _) h5 q k⟩
def rdS1 (g : Str → Str → D) : RDM := fun d es m Q => ∃ x y, d = .str x ∧ es = [.str y] ∧ Q (g x y) m
theorem o_s1b {g : Str → Str → Bool} : MOp K (fun x xs H Q => ∃ a b, x = .str a ∧ xs = [.str b] ∧ Q (.bl (g a b)) H) (rdS1 fun a b => .bl (g a b)) := fun v d vs es H m Q Qv a r1 r2 ⟨x, y, h1, h2, q⟩ k => by
  subst h1 h2
  cases r1
  cases r2 with
  | cons r2 r3 =>
    cases r3
    cases r2
    exact ⟨x, y, rfl, rfl, k _ _ H m a .refl (.bl _) q⟩
theorem o_s1i {g : Str → Str → Int} : MOp K (fun x xs H Q => ∃ a b, x = .str a ∧ xs = [.str b] ∧ Q (.int (g a b)) H) (rdS1 fun a b => .int (g a b)) := fun v d vs es H m Q Qv a r1 r2 ⟨x, y, h1, h2, q⟩ k => by
  subst h1 h2
  cases r1
  cases r2 with
  | cons r2 r3 =>
    cases r3
    cases r2
    exact ⟨x, y, rfl, rfl, k _ _ H m a .refl (.int _) q⟩
end
/-! ### built-in functions -/
section
variable {X : Cx}
theorem callOr {f : Value} {r r' : List V → Hp → VK → Prop} (h : CallR X f r) (h' : CallR X f r') : CallR X f (fun xs H Q => r xs H Q ∨ r' xs H Q) := by
  intro pins s st H xs us Q I r q
  rcases q with q | q
  · exact h pins s st H xs us Q I r q
  · exact h' pins s st H xs us Q I r q
theorem COp.or {K : PySem.W.Frag} {r r' : List V → Hp → VK → Prop} {rd rd' : RDC} (h : COp K r rd) (h' : COp K r' rd') : COp K (fun xs H Q => r xs H Q ∨ r' xs H Q) (fun ds m Q => rd ds m Q ∨ rd' ds m Q) := fun vs ds H m Q Qv a d q k => by
  rcases q with q | q
  · exact .inl (h vs ds H m Q Qv a d q k)
  · exact .inr (h' vs ds H m Q Qv a d q k)
def rdLen : RDC
  | [.str z], m, Q => z.length ≤ sizeLine ∧ Q (.int (z.length : Nat)) m
  | [.tup ds], m, Q => Q (.int (ds.length : Nat)) m
  | [.dic kvs], m, Q => Q (.int (kvs.length : Nat)) m
  | [.ref p], m, Q => (∃ ds, m p = some (.lst ds) ∧ Q (.int (ds.length : Nat)) m) ∨ (∃ ds, m p = some (.dic ds) ∧ Q (.int (ds.length : Nat)) m)
  | [d], m, Q => ∃ ds, lsD m d = some ds ∧ Q (.int (ds.length : Nat)) m
  | _, _, _ => False
theorem o_len : COp X.K (fun xs H Q => (∃ p ys, xs = [.ref p] ∧ (SqL X.K H p ys ∨ SqT X.K H p ys) ∧ Q (.int ys.length) H) ∨ (∃ z, xs = [.str z] ∧ z.length ≤ sizeLine ∧ Q (.int z.length) H) ∨ ∃ a kvs, xs = [V.ref a] ∧ H a = some (.dK kvs) ∧ Q (.int kvs.length) H) rdLen := fun vs ds H m Q Qv a d q k => by
  unfold rdLen at q
  split at q
  · cases d with
    | cons d1 d2 =>
      cases d2; cases d1
      exact .inr (.inl ⟨_, rfl, q.1, k _ _ H m a .refl (.int _) q.2⟩)
  · cases d with
    | cons d1 d2 =>
      cases d2
      obtain ⟨p, xs, rfl, hr, hx⟩ := tup_ok d1
      exact .inl ⟨p, xs, rfl, .inr hr, by rw [hx.length]; exact k _ _ H m a .refl (.int _) q⟩
  · cases d with
    | cons d1 d2 =>
      cases d2
      obtain ⟨p, xs, rfl, hr, hx⟩ := dcD_ok a d1 rfl
      exact .inr (.inr ⟨p, xs, rfl, hr, by rw [hx.length]; exact k _ _ H m a .refl (.int _) q⟩)
  · cases d with
    | cons d1 d2 =>
      cases d2
      rcases q with ⟨ds, e, q⟩ | ⟨ds, e, q⟩
      · obtain ⟨p, xs, rfl, hr, hx⟩ := lsD_ok a d1 (lsD_ref e)
        exact .inl ⟨p, xs, rfl, .inl hr.sq, by rw [hx.length]; exact k _ _ H m a .refl (.int _) q⟩
      · obtain ⟨p, xs, rfl, hr, hx⟩ := dcD_ok a d1 (dcD_ref e)
        exact .inr (.inr ⟨p, xs, rfl, hr, by rw [hx.length]; exact k _ _ H m a .refl (.int _) q⟩)
  · cases d with
    | cons d1 d2 =>
      cases d2
      obtain ⟨ds, e, q⟩ := q
      obtain ⟨p, xs, rfl, hr, hx⟩ := lsD_ok a d1 e
      exact .inl ⟨p, xs, rfl, .inl hr.sq, by rw [hx.length]; exact k _ _ H m a .refl (.int _) q⟩
  · exact q.elim
theorem c_len : CallR X (.builtin "len") (fun xs H Q => (∃ p ys, xs = [.ref p] ∧ (SqL X.K H p ys ∨ SqT X.K H p ys) ∧ Q (.int ys.length) H) ∨ (∃ z, xs = [.str z] ∧ z.length ≤ sizeLine ∧ Q (.int z.length) H) ∨ ∃ a kvs, xs = [V.ref a] ∧ H a = some (.dK kvs) ∧ Q (.int kvs.length) H) :=
  callOr call_len_seq (callOr call_len_str call_lenD)
/-- max, min of two ints; of a list of ints -/
def maxL : List Int → Int
  | [] => 0
  | x :: r => r.foldl (fun a b => if a < b then b else a) x
def minL : List Int → Int
  | [] => 0
  | x :: r => r.foldl (fun a b => if b < a then b else a) x
theorem maxL_spec : ∀ (r : List Int) (x : Int), r.foldl (fun a b => if a < b then b else a) x ∈ x :: r ∧ ∀ y ∈ x :: r, y ≤ r.foldl (fun a b => if a < b then b else a) x
  | [], x => ⟨by simp, fun y h => by simp at h; subst h; exact Int.le_refl _⟩
  | b :: r, x => by
    obtain ⟨h1, h2⟩ := maxL_spec r (if x < b then b else x)
    rw [List.foldl_cons]
    refine ⟨?_, fun y hy => ?_⟩
    · rcases List.mem_cons.mp h1 with h | h
      · rw [h]; split <;> simp
      · simp [h]
    · have h0 := h2 _ List.mem_cons_self
      rcases List.mem_cons.mp hy with h | h
      · subst h
        exact Int.le_trans (by split <;> omega) h0
      · rcases List.mem_cons.mp h with h | h
        · subst h
          exact Int.le_trans (by split <;> omega) h0
        · exact h2 y (List.mem_cons_of_mem _ h)
theorem minL_spec : ∀ (r : List Int) (x : Int), r.foldl (fun a b => if b < a then b else a) x ∈ x :: r ∧ ∀ y ∈ x :: r, r.foldl (fun a b => if b < a then b else a) x ≤ y
  | [], x => ⟨by simp, fun y h => by simp at h; subst h; exact Int.le_refl _⟩
  | b :: r, x => by
    obtain ⟨h1, h2⟩ := minL_spec r (if b < x then b else x)
    rw [List.foldl_cons]
    refine ⟨?_, fun y hy => ?_⟩
    · rcases List.mem_cons.mp h1 with h | h
      · rw [h]; split <;> simp
      · simp [h]
    · have h0 := h2 _ List.mem_cons_self
      rcases List.mem_cons.mp hy with h | h
      · subst h
        exact Int.le_trans h0 (by split <;> omega)
      · rcases List.mem_cons.mp h with h | h
        · subst h
          exact Int.le_trans h0 (by split <;> omega)
        · exact h2 y (List.mem_cons_of_mem _ h)
def rdMax : RDC
  | [.int i, .int j], m, Q => Q (.int (if j > i then j else i)) m
  | [d], m, Q => ∃ ns : List Int, lsD m d = some (ns.map D.int) ∧ 0 < ns.length ∧ Q (.int (maxL ns)) m
  | _, _, _ => False
theorem o_max : COp X.K (fun xs H Q => (∃ i j, xs = [.int i, .int j] ∧ Q (.int (if j > i then j else i)) H) ∨ rMax X.K xs H Q) rdMax := fun vs ds H m Q Qv a d q k => by
  unfold rdMax at q
  split at q
  · cases d with
    | cons d1 d2 =>
      cases d2 with
      | cons d2 d3 =>
        cases d1; cases d2; cases d3
        exact .inl ⟨_, _, rfl, k _ _ H m a .refl (.int _) q⟩
  · cases d with
    | cons d1 d2 =>
      cases d2
      obtain ⟨ns, e, hl, q⟩ := q
      obtain ⟨p, xs, rfl, hr, hx⟩ := lsD_ok a d1 e
      have e := hx.inv_ints ns
      subst e
      refine .inr ⟨p, ns, rfl, hr.sq, hl, fun z hz hm => ?_⟩
      cases ns with
      | nil => cases hl
      | cons x r =>
        obtain ⟨h1, h2⟩ := maxL_spec r x
        have : z = maxL (x :: r) := Int.le_antisymm (h2 z hz) (hm _ h1)
        rw [this]
        exact k _ _ H m a .refl (.int _) q
  · exact q.elim
def rdMin : RDC
  | [.int i, .int j], m, Q => Q (.int (if j < i then j else i)) m
  | [d], m, Q => ∃ ns : List Int, lsD m d = some (ns.map D.int) ∧ 0 < ns.length ∧ Q (.int (minL ns)) m
  | _, _, _ => False
theorem o_min : COp X.K (fun xs H Q => (∃ i j, xs = [.int i, .int j] ∧ Q (.int (if j < i then j else i)) H) ∨ rMin X.K xs H Q) rdMin := fun vs ds H m Q Qv a d q k => by
  unfold rdMin at q
  split at q
  · cases d with
    | cons d1 d2 =>
      cases d2 with
      | cons d2 d3 =>
        cases d1; cases d2; cases d3
        exact .inl ⟨_, _, rfl, k _ _ H m a .refl (.int _) q⟩
  · cases d with
    | cons d1 d2 =>
      cases d2
      obtain ⟨ns, e, hl, q⟩ := q
      obtain ⟨p, xs, rfl, hr, hx⟩ := lsD_ok a d1 e
      have e := hx.inv_ints ns
      subst e
      refine .inr ⟨p, ns, rfl, hr.sq, hl, fun z hz hm => ?_⟩
      cases ns with
      | nil => cases hl
      | cons x r =>
        obtain ⟨h1, h2⟩ := minL_spec r x
        have : z = minL (x :: r) := Int.le_antisymm (hm _ h1) (h2 z hz)
        rw [this]
        exact k _ _ H m a .refl (.int _) q
  · exact q.elim
def rdInt : RDC
  | [.int i], m, Q => Q (.int i) m
  | [.bl b], m, Q => Q (.int (if b then 1 else 0)) m
  | [.str z], m, Q => ∃ n, PySem.intText? z = some n ∧ z.length ≤ 640 ∧ Q (.int n) m
  | _, _, _ => False
theorem o_int : COp X.K (fun xs H Q => ((∃ i, xs = [.int i] ∧ Q (.int i) H) ∨ ∃ k, xs = [.bl k] ∧ Q (.int (if k then 1 else 0)) H) ∨ ∃ a n, xs = [.str a] ∧ PySem.intText? a = some n ∧ a.length ≤ 640 ∧ Q (.int n) H) rdInt := fun vs ds H m Q Qv a d q k => by
  unfold rdInt at q
  split at q
  · cases d with
    | cons d1 d2 => cases d2; cases d1; exact .inl (.inl ⟨_, rfl, k _ _ H m a .refl (.int _) q⟩)
  · cases d with
    | cons d1 d2 => cases d2; cases d1; exact .inl (.inr ⟨_, rfl, k _ _ H m a .refl (.int _) q⟩)
  · obtain ⟨n, h1, h2, q⟩ := q
    cases d with
    | cons d1 d2 => cases d2; cases d1; exact .inr ⟨_, n, rfl, h1, h2, k _ _ H m a .refl (.int _) q⟩
  · exact q.elim
theorem c_int : CallR X (.type "int") (fun xs H Q => ((∃ i, xs = [.int i] ∧ Q (.int i) H) ∨ ∃ k, xs = [.bl k] ∧ Q (.int (if k then 1 else 0)) H) ∨ ∃ a n, xs = [.str a] ∧ PySem.intText? a = some n ∧ a.length ≤ 640 ∧ Q (.int n) H) := callOr call_int1 call_int_str
def rdStr : RDC
  | [.int i], m, Q => i.natAbs.log2 < 1920 ∧ Q (.str (toString i)) m
  | _, _, _ => False
theorem o_str : COp X.K (fun xs H Q => ∃ i, xs = [.int i] ∧ i.natAbs.log2 < 1920 ∧ Q (.str (toString i)) H) rdStr := fun vs ds H m Q Qv a d q k => by
  unfold rdStr at q
  split at q
  · cases d with
    | cons d1 d2 => cases d2; cases d1; exact ⟨_, rfl, q.1, k _ _ H m a .refl (.str _) q.2⟩
  · exact q.elim
/-- list(x), tuple(x) -/
def rdList (mk : Bool) : RDC
  | [.tup ds], m, Q => mkL mk ds m Q
  | [d], m, Q => ∃ ds, lsD m d = some ds ∧ mkL mk ds m Q
  | _, _, _ => False
theorem o_list {mk : Bool} : COp X.K (fun xs H Q => ∃ p ys, xs = [.ref p] ∧ (SqL X.K H p ys ∨ SqT X.K H p ys) ∧ ∀ l, H l = none → Q (.ref l) (upd H l (.lst ys))) (rdList mk) := fun vs ds H m Q Qv a d q k => by
  unfold rdList at q
  split at q
  · cases d with
    | cons d1 d2 =>
      cases d2
      have tl := tup_len d1
      obtain ⟨p, xs, rfl, hr, hx⟩ := tup_ok d1
      exact ⟨p, xs, rfl, .inr hr, mkL_ok a hx (by rw [hx.length]; exact tl) q k⟩
  · cases d with
    | cons d1 d2 =>
      cases d2
      obtain ⟨ds, e, q⟩ := q
      obtain ⟨p, xs, rfl, hr, hx⟩ := lsD_ok a d1 e
      exact ⟨p, xs, rfl, .inl hr.sq, mkL_ok a hx hr.len q k⟩
  · exact q.elim
def rdTuple : RDC
  | [.tup ds], m, Q => Q (.tup ds) m
  | [d], m, Q => ∃ ds, lsD m d = some ds ∧ Q (.tup ds) m
  | _, _, _ => False
theorem o_tuple : COp X.K (fun xs H Q => ∃ p ys, xs = [.ref p] ∧ ((SqL X.K H p ys ∧ ∀ l, H l = none → Q (.ref l) (upd H l (.tup ys))) ∨ (SqT X.K H p ys ∧ Q (.ref p) H))) rdTuple := fun vs ds H m Q Qv a d q k => by
  unfold rdTuple at q
  split at q
  · cases d with
    | cons d1 d2 =>
      cases d2
      have d1' := d1
      obtain ⟨p, xs, rfl, hr, hx⟩ := tup_ok d1
      exact ⟨p, xs, rfl, .inr ⟨hr, k _ _ H m a .refl d1' q⟩⟩
  · cases d with
    | cons d1 d2 =>
      cases d2
      obtain ⟨ds, e, q⟩ := q
      obtain ⟨p, xs, rfl, hr, hx⟩ := lsD_ok a d1 e
      exact ⟨p, xs, rfl, .inl ⟨hr.sq, mkT_ok a hx hr.len q k⟩⟩
  · exact q.elim
/-- sorted: ints; texts (below 64) -/
def rdSorted (mk : Bool) : RDC := fun ds m Q => ∃ d, ds = [d] ∧ ((∃ ns : List Int, lsD m d = some (ns.map D.int) ∧ mkL mk ((sortI ns).map D.int) m Q) ∨
  (∃ ns : List Str, lsD m d = some (ns.map D.str) ∧ ns.length < 64 ∧ ∀ ys : List Str, ys.Perm ns → sortedS ys = true → mkL mk (ys.map D.str) m Q))
theorem o_sorted {mk : Bool} : COp X.K (fun xs H Q => rSortedI X.K xs H Q ∨ rSortedS X.K xs H Q) (rdSorted mk) := fun vs ds H m Q Qv a d q k => by
  obtain ⟨e, rfl, q⟩ := q
  cases d with
  | cons d1 d2 =>
    cases d2
    rcases q with ⟨ns, e, q⟩ | ⟨ns, e, hl, q⟩
    · obtain ⟨p, xs, rfl, hr, hx⟩ := lsD_ok a d1 e
      have e := hx.inv_ints ns
      subst e
      refine .inl ⟨p, ns, rfl, hr.sq, fun ns' p' hp hs n => ?_⟩
      have e := sortI_eq hp hs
      subst e
      exact mkL_ok a (DvAll.ints _) (by have := hr.len; rw [List.length_map] at this ⊢; rw [(sortI_perm ns).length_eq]; exact this) q k p' n
    · obtain ⟨p, xs, rfl, hr, hx⟩ := lsD_ok a d1 e
      have e := hx.inv_strs ns
      subst e
      exact .inr ⟨p, ns, rfl, hr.sq, hl, fun ys p' hp hs n => mkL_ok a (DvAll.strs ys) (by have := hr.len; rw [List.length_map] at this ⊢; rw [hp.length_eq]; exact this) (q ys hp hs) k p' n⟩
theorem c_sorted : CallR X (.builtin "sorted") (fun xs H Q => rSortedI X.K xs H Q ∨ rSortedS X.K xs H Q) := callOr cr_sortedI cr_sortedS
def rdSum : RDC := fun ds m Q => ∃ (d : D) (ns : List Int), ds = [d] ∧ lsD m d = some (ns.map D.int) ∧ Q (.int ns.sum) m
theorem o_sum : COp X.K (rSum X.K) rdSum := fun vs ds H m Q Qv a d ⟨e, ns, h1, h2, q⟩ k => by
  subst h1
  cases d with
  | cons d1 d2 =>
    cases d2
    obtain ⟨p, xs, rfl, hr, hx⟩ := lsD_ok a d1 h2
    have e := hx.inv_ints ns
    subst e
    exact ⟨p, ns, rfl, hr.sq, k _ _ H m a .refl (.int _) q⟩
def rdAll : RDC := fun ds m Q => ∃ (d : D) (bs : List Bool), ds = [d] ∧ lsD m d = some (bs.map D.bl) ∧ Q (.bl (bs.all id)) m
theorem o_all : COp X.K (rAll X.K) rdAll := fun vs ds H m Q Qv a d ⟨e, ns, h1, h2, q⟩ k => by
  subst h1
  cases d with
  | cons d1 d2 =>
    cases d2
    obtain ⟨p, xs, rfl, hr, hx⟩ := lsD_ok a d1 h2
    have e := hx.inv_bls ns
    subst e
    exact ⟨p, ns, rfl, hr.sq, k _ _ H m a .refl (.bl _) q⟩
/-- isinstance of data against a built-in class -/
def tyD (m : Mu) : D → Option String
  | .non => some "NoneType"
  | .bl _ => some "bool"
  | .int _ => some "int"
  | .str _ => some "str"
  | .lst _ => some "list"
  | .scr _ => some "list"
  | .tup _ => some "tuple"
  | .dic _ => some "dict"
  | .ref p => match m p with
    | some (.lst _) => some "list"
    | some (.dic _) => some "dict"
    | _ => none
  | _ => none
theorem tyD_ok {K : PySem.W.Frag} {m : Mu} {H : Hp} {v : V} {d : D} {n : String} (a : MuOk K m H) (r : Dv K (hid m H) v d) (e : tyD m d = some n) : TyX K H v (.type n) := by
  cases r with
  | non => cases e; exact .base .non
  | bl b => cases e; exact .base (.bl b)
  | int b => cases e; exact .base (.int b)
  | str b => cases e; exact .base (.str b)
  | lst h _ q => cases e; exact .base (.lst (of_hid h).2)
  | scr h q =>
    cases e
    rcases scr_hid h with ⟨⟨o, h⟩, _⟩ | ⟨its, h, _⟩
    · exact .base (.frz h)
    · exact .kList h rfl
  | tup h _ q =>
    cases e
    rcases h with (h | ⟨o, h⟩) | ⟨o, its, n, h1, h2, _⟩
    · exact .base (.tup (of_hid h).2)
    · exact .fTuple (of_hid h).2
    · exact .kTuple h1 h2
  | dic h q => cases e; exact .base (.dK (of_hid h).2)
  | ref p =>
    have e : (match m p with | some (.lst _) => some "list" | some (.dic _) => some "dict" | _ => none) = some n := e
    cases q : m p with
    | none => rw [q] at e; cases e
    | some o =>
      rw [q] at e
      cases o with
      | lst xs =>
        cases e
        obtain ⟨xs, h1, _, h2⟩ := a p _ q
        exact .base (.lst h1)
      | dic _ =>
        cases e
        obtain ⟨xs, h1, h2⟩ := a p _ q
        exact .base (.dK h1)
      | ins _ _ => cases e
  | ins h q => cases e
  | ty n => cases e
def rdIsi : RDC := fun ds m Q => ∃ d n c b, ds = [d, .ty c] ∧ tyD m d = some n ∧ kitB n c = some b ∧ Q (.bl b) m
theorem o_isi : COp X.K (rIsi X.K) rdIsi := fun vs ds H m Q Qv a d ⟨e, n, c, b, h1, h2, h3, q⟩ k => by
  subst h1
  cases d with
  | cons d1 d2 =>
    cases d2 with
    | cons d2 d3 =>
      cases d3; cases d2
      exact ⟨_, _, _, _, b, rfl, .ty c, tyD_ok a d1 h2, kit_ty h3, k _ _ H m a .refl (.bl _) q⟩
end
end DL
/-! DL6: promises of defs that know that no repr is under way (FnG), their bodies, calls, the law's end; repr. -/
namespace DL
open PySem PySem.Spec PyProof.Rows L2
/-- a def's promise, for calls while no repr is under way -/
structure FnG (P : Program) (w : World) (K : PySem.W.Frag) (mg : Str → Option Value) (base : Heap) (CX : CXT) (k : Nat) (f : Addr) (fd : FuncData) (ps : List Str) (sp : Sp) : Prop where
  len : ∀ vs H Q E, sp vs H Q E → vs.length = ps.length
  run : ∀ (A : Around) (outer : List Env) (s : Shared) (H : Hp) (args : Args) (us : List Value) (vs : List V) (Q : VK) (E : XK), A.guards = some [] → Room k A → Env0 P w K mg base A outer s H → BindsTo s fd args (ps.zip us) → Vals vs us → sp vs H Q E →
    codeAny (model P w) A (.call (.ref f) args) (CR CX outer P w H s Q E) s
section
variable {P : Program} {w : World} {K : PySem.W.Frag} {mg : Str → Option Value} {base : Heap} {CX : CXT} {j k : Nat} {f : Addr} {fd : FuncData} {ps : List Str} {sp : Sp}
theorem FnG.of (F : FnOk P w K mg base CX k f fd ps sp) : FnG P w K mg base CX k f fd ps sp := ⟨F.len, fun A o s H a us vs Q E _ => F.run A o s H a us vs Q E⟩
theorem FnG.mono (F : FnG P w K mg base CX j f fd ps sp) (h : j ≤ k) : FnG P w K mg base CX k f fd ps sp := ⟨F.len, fun A o s H a us vs Q E g r => F.run A o s H a us vs Q E g (r.mono h)⟩
theorem guards_deeper {A : Around} {env : Env} (h : A.guards = some []) : (A.deeper env).guards = some [] := h
/-- a body keeps the promise -/
theorem fnG_of {name qual : Str} {params : Arguments} {body : List Stmt} {scope : Scope} {dV kV doc pm cdv ct oc : Value} {an od : Option Addr} {osl : Array (Option Value)} {N : List Str}
    (lk : K.lookup f = some ⟨oc, od, .func (PySem.W.fnOf name qual params body scope dV kV doc pm an cdv ct), osl⟩) (hcd : PySem.W.codeIn K cdv qual = true) (S : FnScope N ps scope) (len : ∀ vs H Q E, sp vs H Q E → vs.length = ps.length)
    (hbody : ∀ (A : Around) (outer : List Env) (s : Shared) (H : Hp) (vs : List V) (Q : VK) (E : XK), A.guards = some [] → Room k (A.deeper (envOfC qual scope s.heap.objs.size f cdv)) → sp vs H Q E →
      ∃ t, PSs (cxOf CX P w K mg base N qual scope f cdv A outer s H E) body t ∧ t { nx := fun _ H' => Q .non H', rt := Q } (L2.start N vs) H) :
    FnG P w K mg base CX (k + 1) f (PySem.W.fnOf name qual params body scope dV kV doc pm an cdv ct) ps sp := by
  refine ⟨len, ?_⟩
  intro A outer st H args us vs Q E gd room ev bind rel want
  have inK : K.In st.heap := ev.mod.kin.keeps (fun b o e => (ev.bs b o e).1)
  have noLim : st.heap.NoLimit := ev.mod.nolimit.keeps (fun b o e => (ev.bs b o e).1)
  have kinds : ∀ y ∈ ps.zip us, scope.names.lookup y.1 = some .local ∨ (scope.names.lookup y.1 = some .cell ∧ ((cellsFrom (st.heap.objs.size + 1) scope.names []).lookup y.1).isSome = true) := by
    rintro ⟨n, v⟩ hy
    exact (S.par n (List.of_mem_zip hy).1).imp id (fun q => ⟨q, PySem.W.cellsFrom_some _ _ _ (.inl q)⟩)
  refine codeAny_call_function room.depth (inK _ _ lk) rfl S.co S.gen rfl (PySem.W.codeRec_of inK hcd) (bind _ _ _ _ (wpAny_newFunctionEnv_cells S.kind kinds (fun env eEnv s1 x => ?_)))
  cases eEnv
  obtain ⟨t, ht, hq⟩ := hbody A outer st H vs Q E gd (room.deeper _) want
  have I0 : Inv (cxOf CX P w K mg base N qual scope f cdv A outer st H E) [] (L2.start N vs) H s1 := inv_start S room.hd ev (len _ _ _ _ want) rel x
  refine ⟨noLim.keeps x.toInCall.keep, codeAny_func (wpAny_mono (ht.run [] s1 (L2.start N vs) H _ I0 hq) (fun fl s' hs => ?_) (fun _ _ h => h))⟩
  cases fl with
  | ret u => exact let ⟨v, _, H', J, rv, q⟩ := hs; ⟨v, H', J.os, J.bare, J.base, J.hok, rv, q⟩
  | next => exact let ⟨_, H', J, q⟩ := hs; ⟨V.non, H', J.os, J.bare, J.base, J.hok, rfl, q⟩
  | brk => exact let ⟨_, _, _, q⟩ := hs; False.elim q
  | cont => exact let ⟨_, _, _, q⟩ := hs; False.elim q
theorem start_env {m : Mu} {H : Hp} {N : List Str} {vs : List V} {ds : List D} (dv : DvAll K (hid m H) vs ds) : EnvOk K (hid m H) (L2.start N vs) (ds.map some ++ List.replicate (N.length - ds.length) none) := by
  unfold L2.start
  rw [dv.length]
  have go : ∀ {vs : List V} {ds : List D}, DvAll K (hid m H) vs ds → ∀ n, EnvOk K (hid m H) (vs.map some ++ List.replicate n none) (ds.map some ++ List.replicate n none) := by
    intro vs ds r n
    induction vs generalizing ds with
    | nil =>
      cases r
      induction n with
      | zero => exact .nil
      | succ n ih => exact .cons (fun e he => nomatch he) ih
    | cons v vs ih =>
      cases r with
      | cons h1 h2 => exact .cons (fun e he => by cases he; exact ⟨v, rfl, h1⟩) (ih h2)
  exact go dv _
/-- a def's body, while no repr is under way -/
theorem Fun.okDG {x qual : Str} {st : Stmt} {N : List Str} {sp : DSp} (F : Fun K x qual st f fd) (S : FnScope N ps (defScope st)) (len : ∀ ds m Q Ex, sp ds m Q Ex → ds.length = ps.length)
    (hbody : ∀ (cdv : Value) (A : Around) (outer : List Env) (s : Shared) (H : Hp) (E : XK), A.guards = some [] → Room k (A.deeper (envOfC qual (defScope st) s.heap.objs.size f cdv)) →
      ∃ t, PSs (cxOf CX0 P w K mg base N qual (defScope st) f cdv A outer s H E).nox (defBody st) (tLS K E0 t) ∧ ∀ ds m Q Ex, sp ds m Q Ex → t { nx := fun _ m' => Gq K Q .non m', rt := Gq K Q } (ds.map some ++ List.replicate (N.length - ds.length) none) m) : FnG P w K mg base CX0 (k + 1) f fd ps (spD K sp) := by
  obtain ⟨oc, od, kV, doc, pm, an, cdv, ct, osl, rfl, lk, hcd⟩ := F.ex
  refine fnG_of lk hcd S (fun vs H Q E ⟨ds, m, QQ, Ex, a, dv, h, _⟩ => dv.length.trans (len _ _ _ _ h)) fun A outer s H vs Q E gd hr ⟨ds, m, QQ, Ex, a, dv, h, kq, kx⟩ => ?_
  obtain ⟨t, ht, hq⟩ := hbody cdv A outer s H E gd hr
  refine ⟨_, ht.nox, _, m, _, ⟨a, start_env dv⟩, hq ds m QQ Ex h, ⟨fun st' H' tau' m' r f ⟨d', m2, g, q⟩ => ?_, fun v d H' m' a' f dv' ⟨d', m2, g, q⟩ => ?_, fun _ _ _ _ _ _ z => z.elim, fun _ _ _ _ _ _ z => z.elim, xok_nx⟩⟩
  · obtain ⟨x1, x2, x3⟩ := g H' .non r.mu .non
    exact kq _ _ H' m2 x1 (f.trans x2) x3 q
  · obtain ⟨x1, x2, x3⟩ := g H' v a' dv'
    exact kq _ _ H' m2 x1 (f.trans x2) x3 q
end
section
variable {X : Cx} {CX : CXT} {k : Nat} {f : Addr} {fd : FuncData} {ps : List Str} {sp : Sp} {dvs : List V} {ds : List Value} {E : XK} {x : Str} {p pos : Pos} {e : Expr} {es : List Expr} {t : TA}
theorem run_fnG {pins : List (Addr × Obj)} {st : L2.St} {H : Hp} {s : Shared} {Q : VK} {us : List Value} {vs : List V} (gd : X.A.guards = some []) (F : FnG X.prog X.w X.K X.mg X.base CX k f fd ps sp) (hr : Room k X.A) (hb : L2.Binds X.K fd ps ds) (hd : Vals dvs ds) (hx : Passes CX X E)
    (I : Inv X pins st H s) (r : Vals vs us) (h : sp (vs ++ dvs) H Q E) : wpAny (model X.prog X.w) X.A (call (.ref f) us) (EP X pins st Q) X.xe s := by
  have rr : Vals (vs ++ dvs) (us ++ ds) := r.append hd
  have len : (us ++ ds).length = ps.length := rr.length.symm.trans (F.len _ _ _ _ h)
  refine wpAny_call (codeAny_mono (F.run X.A X.stack s H ⟨us, []⟩ (us ++ ds) (vs ++ dvs) Q E gd hr I.env0 (hb s us I.kIn len) rr h) ?_)
  rintro (e | fl) s' hq
  · exact hx pins st H s e s' I hq
  · cases fl with
    | ret u => exact I.after hq
    | next => exact absurd hq id
    | brk => exact absurd hq id
    | cont => exact absurd hq id
theorem pe_callG (gd : X.A.guards = some []) (F : FnG X.prog X.w X.K X.mg X.base CX k f fd ps sp) (hr : Room k X.A) (hg : Gl X x) (hm : X.mg x = some (.ref f)) (hk : PySem.W.keepIn X.K (.ref f) = true) (hb : L2.Binds X.K fd ps ds) (hd : Vals dvs ds) (hx : Passes CX X E)
    (ha : PA X (e :: es) t) (hdb : (x == ("__debug__" : Str)) = false := by decide) (hs : starEach (e :: es) X.env = (false, eval e X.env) :: starEach es X.env := by rfl) (hp : (backTo pos (starEach es X.env)).any (·.1) = false := by rfl) :
    PE X (.Call (.Name x p) (e :: es) [] pos) (tCall sp dvs E t) := ⟨fun pins s st H Q I h => wpAny_Call_Name_kw (ld_glob I hg hm
      (PySem.W.callWith_K (h₀ := X.base) I.ok.mod.kin hk (thn (ha.run pos pins s st H _ I h) fun us s1 ⟨vs, H1, I1, r, q⟩ => ⟨I1.kIn, run_fnG gd F hr hb hd hx I1 r q⟩) hs hp) hdb)⟩
end
/-! ### the law's end -/
section
variable {P : Program} {w : World} {K : PySem.W.Frag} {mg mb : Str → Option Value} {k : Nat} {fa a : Addr} {fd : FuncData} {x : Str} {sp : DSp} {s1 : Shared} {vs : List Value} {ns : List Int}
/-- what a law's def promises: of every script it hands back True -/
def spTrue : DSp := fun ds _ Q _ => ∃ ns : List Int, ds = [.scr (ns.map D.int)] ∧ ns.length ≤ 63 ∧ ∀ m', Q (.bl true) m'
theorem run_law (H : Hp) (inK : K.In s1.heap) (hns : s1.heap.Ns mainGlobals mg) (hb : s1.heap.Ns builtinsNs mb) (hbb : ∀ x : Str, x ≠ "__name__" → mb x = bootBuiltins x) (hlim : s1.heap.NoLimit) (hg : s1.gens = #[])
    (ha : s1.heap.get? a = some { cls := .type "list", data := .seq vs.toArray }) (hl : ns.length ≤ 63) (hr : Room k callerA) (Hn : ∀ b, b ≠ a → H b = none) (held : HOk P w H s1.heap)
    (apart : ∀ o, K.lookup a = some o → H a = none) (frz : ∀ o u, H a = some (.frz o u) → o = { cls := .type "list", data := .seq vs.toArray }) (one : H a = none ∨ ∃ o u, H a = some (.frz o u)) (scr : Scr K H a (ns.map V.int))
    (F : ∀ base : Heap, K.In base → base.Ns mainGlobals mg → FnG P w K mg base CX0 k fa fd [x] (spD K spTrue)) (hbind : ∀ (s : Shared) (u : Value), BindsTo s fd ⟨[u], []⟩ [(x, u)]) :
    codeAny (model P w) callerA (.call (.ref fa) ⟨[.ref a], []⟩) (fun r s' => r = .ok (.ret (.bool true)) ∧ OldK s1.heap s'.heap ∧ s'.os = s1.os ∧ AllBare s'.gens) s1 := by
  have low : ∀ {b : Addr} {u : Obj}, s1.heap.get? b = some u → H b = none → (hidT s1.heap H).get? b = some u := fun e c => hidT_get e c
  have spaces : ∀ {b : Addr} {m : Str → Option Value}, s1.heap.Ns b m → (hidT s1.heap H).Ns b m := by
    rintro b m ⟨u, es, ep, e, d, r⟩
    have c : b ≠ a := fun z => by
      subst z
      rw [ha] at e
      cases e
      exact absurd (show Data.seq vs.toArray _ = Data.dict es ep from d) (by intro z; cases z)
    exact ⟨u, es, ep, low e (Hn b c), d, r⟩
  have inB : K.In (hidT s1.heap H) := fun b u e => low (inK b u e) (by
    by_cases z : b = a
    · subst z; exact apart u e
    · exact Hn b z)
  have modB : Mod K mg (hidT s1.heap H) := ⟨inB, spaces hns, ⟨mb, spaces hb, hbb⟩, hlim.imp fun mc h => ⟨spaces h.1, h.2⟩⟩
  have ev : Env0 P w K mg (hidT s1.heap H) callerA [] s1 H := ⟨rfl, modB, fun b u e => of_hidT e, Nat.le_of_eq (hidT_size _ _), trivial, fun b z => (nomatch z), held, .of_eq hg⟩
  have want : spD K spTrue [.ref a] H (fun v _ => v = .bl true) (fun _ _ _ => False) :=
    ⟨[.scr (ns.map D.int)], fun _ => none, fun d _ => d = .bl true, NX, fun _ _ e => (nomatch e), .cons (.scr (scr.imp (fun ⟨⟨o, h⟩, l⟩ => ⟨⟨o, h⟩, l⟩) id) (DvAll.ints ns)) .nil, ⟨ns, rfl, hl, fun _ => rfl⟩, fun v d H' m' _ _ dv e => by
      subst e
      cases dv
      rfl, xok_nx⟩
  refine codeAny_mono ((F _ inB (spaces hns)).run callerA [] s1 H ⟨[.ref a], []⟩ [.ref a] [.ref a] _ _ rfl hr ev (hbind s1 (.ref a)) (.cons rfl .nil) want) ?_
  rintro (e | fl) s' h
  · exact absurd h id
  · cases fl with
    | ret u =>
      obtain ⟨v, H', os, bare, un, held', r', q⟩ := h
      cases (show v = V.bl true from q)
      cases (show u = Value.bool true from r')
      refine ⟨rfl, OldK.of_keep fun b u e => ?_, os, bare⟩
      by_cases c : H b = none
      · exact un.keep b u e c (fun z => (nomatch z)) (fun z => (nomatch z))
      · have hb : b = a := Decidable.byContradiction fun z => c (Hn b z)
        subst hb
        rcases one with z | ⟨o, y, z⟩
        · exact absurd z c
        · have z2 := un.frzs b o _ z
          have e2 := (held' b _ z2).1
          rw [ha] at e
          cases e
          rw [← frz o y z]
          exact e2
    | next => exact absurd h id
    | brk => exact absurd h id
    | cont => exact absurd h id
theorem law_callG (inK : K.In s1.heap) (hns : s1.heap.Ns mainGlobals mg) (hb : s1.heap.Ns builtinsNs mb) (hbb : ∀ x : Str, x ≠ "__name__" → mb x = bootBuiltins x) (hlim : s1.heap.NoLimit) (hg : s1.gens = #[])
    (ha : s1.heap.get? a = some { cls := .type "list", data := .seq vs.toArray }) (hi : IntsAre vs ns) (hl : ns.length ≤ 63) (hr : Room k callerA)
    (F : ∀ base : Heap, K.In base → base.Ns mainGlobals mg → FnG P w K mg base CX0 k fa fd [x] (spD K spTrue)) (hbind : ∀ (s : Shared) (u : Value), BindsTo s fd ⟨[u], []⟩ [(x, u)]) :
    codeAny (model P w) callerA (.call (.ref fa) ⟨[.ref a], []⟩) (fun r s' => r = .ok (.ret (.bool true)) ∧ OldK s1.heap s'.heap ∧ s'.os = s1.os ∧ AllBare s'.gens) s1 := by
  have rv := vals_ints hi
  have hl2 : (ns.map V.int).length ≤ sizeLine := by rw [List.length_map]; exact Nat.le_trans hl (by decide)
  cases kk : K.lookup a with
  | some o =>
    have e := inK a o kk
    rw [ha] at e
    cases e
    exact run_law (fun _ => none) inK hns hb hbb hlim hg ha hl hr (fun _ _ => rfl) (fun _ _ z => (nomatch z)) (fun _ _ => rfl) (fun _ _ z => (nomatch z)) (.inl rfl) (.inr ⟨vs, kk, rv, hl2⟩) F hbind
  | none =>
    refine run_law (fun b => if b = a then some (.frz { cls := .type "list", data := .seq vs.toArray } (.lst (ns.map V.int))) else none) inK hns hb hbb hlim hg ha hl hr (fun b h => if_neg h) (fun b u z => ?_) (fun o z => by rw [kk] at z; cases z) (fun o u z => ?_) (.inr ⟨_, _, if_pos rfl⟩) (.inl ⟨⟨_, if_pos rfl⟩, hl2⟩) F hbind
    · by_cases c : b = a
      · subst c
        cases ((if_pos rfl).symm.trans z)
        exact ⟨ha, hl2, vs, _, rv, ha⟩
      · cases ((if_neg c).symm.trans z)
    · cases ((if_pos rfl).symm.trans z)
      rfl
/-- the goal that the head leaves -/
theorem walkG {l : PySem.W.OpenLaw} {k : Nat} {q : Program} {loose : List Str} {XP : (Str → Option Value) → Heap → Prop} {YP : World → Heap → Prop} {d : DefRec} {K : Params → PySem.W.Frag} {x : Str}
    (hn : l.most = some 63) (hdf : d.params.defaults = []) (hr : Room k callerA) (hY : ∀ (w : World) (h : Heap), YP w h → (K w.params).In h)
    (F : ∀ (w : World) (mg : Str → Option Value) (fa : Addr) (h : Heap), (K w.params).In h → h.Ns mainGlobals mg → mg d.name = some (.ref fa) →
      ∃ fd : FuncData, (∀ (s : Shared) (u : Value), BindsTo s fd ⟨[u], []⟩ [(x, u)]) ∧ ∀ base : Heap, (K w.params).In base → base.Ns mainGlobals mg → FnG l.prog w (K w.params) mg base CX0 k fa fd [x] (spD (K w.params) spTrue)) :
    PySem.W.WalkO q loose XP YP l.row.toRowW d [] (fun f vs => PySem.call f vs) := by
  refine Att.attach_call hn hdf fun w s0 s1 mg mb fa o pm cd doc a vs ns G Y ho hd hcd hmg hobj hints hlen hg => ?_
  obtain ⟨fd, hb, hF⟩ := F w mg fa _ (hY w _ Y) G.T.g hmg
  exact law_callG (hY w _ Y) G.T.g G.T.b G.T.builtins G.T.nolimit hg hobj hints hlen hr hF hb
end
/-! ### repr -/
mutual
theorem Dp.noDict {K : PySem.W.Frag} {H : Hp} : ∀ (d : PyData) (v : V), Dp K H v d → d.hasDict = false
  | .none, _, _ => by simp only [PyData.hasDict]
  | .bool _, _, _ => by simp only [PyData.hasDict]
  | .int _, _, _ => by simp only [PyData.hasDict]
  | .str _, _, _ => by simp only [PyData.hasDict]
  | .list ds, _, h => by
    cases h with
    | lst hs ha =>
      simp only [PyData.hasDict]
      exact DpAll.noDict ds _ ha
  | .tuple ds, _, h => by
    cases h with
    | tup hs ha =>
      simp only [PyData.hasDict]
      exact DpAll.noDict ds _ ha
  | .dict _, _, h => by cases h
theorem DpAll.noDict {K : PySem.W.Frag} {H : Hp} : ∀ (ds : List PyData) (vs : List V), DpAll K H vs ds → PyData.hasDictAll ds = false
  | [], _, _ => by simp only [PyData.hasDictAll]
  | d :: ds, _, h => by
    cases h with
    | cons h1 h2 => simp only [PyData.hasDictAll, Dp.noDict d _ h1, DpAll.noDict ds _ h2, Bool.or_self]
end
section
variable {X : Cx}
/-- of data -/
theorem repr_dat (gd : X.A.guards = some []) (hu : X.A.units + 65 < cLine) : CallR X (.builtin "repr") (fun xs H Q => ∃ x p, xs = [x] ∧ Dp X.K H x p ∧ PyData.showable p = true ∧ p.shown.length ≤ sizeLine ∧ p.depth ≤ 60 ∧ Q (.str p.shown) H) := by
  intro pins s st H xs us Q I r ⟨x, p, e, dp, h1, h2, h3, q⟩
  subst e
  obtain ⟨u, rfl, ru⟩ := vals1 r
  have dp0 := dp
  cases dp with
  | non =>
    cases ru
    exact PySem.P.repr_of_none ⟨.str _, H, I.tok _, ⟨_, rfl⟩, by simpa only [PyData.shown] using q⟩
  | bl b =>
    cases ru
    exact PySem.P.repr_of_bool ⟨.str _, H, I.tok _, ⟨_, rfl⟩, by simpa only [PyData.shown] using q⟩
  | int i =>
    obtain ⟨t, rfl⟩ := ru
    exact PySem.P.repr_of_int (by simpa only [PyData.showable, decide_eq_true_eq] using h1) ⟨.str _, H, I.tok _, ⟨_, rfl⟩, by simpa only [PyData.shown] using q⟩
  | str z =>
    obtain ⟨t, rfl⟩ := ru
    exact PySem.P.repr_of_str ⟨.str _, H, I.tok _, ⟨_, rfl⟩, by simpa only [PyData.shown] using q⟩ (by simpa only [PyData.shown] using h2)
  | lst hs ha =>
    cases ru
    obtain ⟨as, rr⟩ := Dp.reads I _ _ _ dp0 rfl
    exact repr_of_reads' rr h1 (PyData.noDict_hsm (Dp.noDict _ _ dp0)) gd (by omega) (fun _ _ e => e) (fun h' u tk hk => ⟨.str _, H, I.kept hk, ⟨_, rfl⟩, q⟩) h2
  | tup hs ha =>
    cases ru
    obtain ⟨as, rr⟩ := Dp.reads I _ _ _ dp0 rfl
    exact repr_of_reads' rr h1 (PyData.noDict_hsm (Dp.noDict _ _ dp0)) gd (by omega) (fun _ _ e => e) (fun h' u tk hk => ⟨.str _, H, I.kept hk, ⟨_, rfl⟩, q⟩) h2
/-- of the empty dict -/
theorem repr_dic0 (gd : X.A.guards = some []) (hu : X.A.units + 65 < cLine) : CallR X (.builtin "repr") (fun xs H Q => ∃ p, xs = [.ref p] ∧ H p = some (.dK []) ∧ Q (.str (PyData.dict []).shown) H) := by
  intro pins s st H xs us Q I r ⟨p, e, hp, q⟩
  subst e
  obtain ⟨u, rfl, ru⟩ := vals1 r
  cases ru
  obtain ⟨_, hs, vs, kv, o, es, ep, h1, h2, h3, h4, h5, h6⟩ := I.hok p _ hp
  cases kv
  have hes : es = #[] := by
    have : es.toList = [] := by
      cases e : es.toList with
      | nil => rfl
      | cons x r => rw [e] at h5; cases h5
    exact Array.toList_eq_nil_iff.mp this
  subst hes
  have rr : Reads s.heap (.ref p) (.dict []) [p] := Reads.dict (as := []) (bs := []) h1 h2.1 h3 .nil .nil
  refine repr_of_reads' rr (by simp [PyData.showable, PyData.showableKv]) (fun _ hm => ?_) gd (by simp only [PyData.depth, PyData.depthKv]; omega) (fun _ _ e => e) (fun h' u tk hk => ⟨.str _, H, I.kept hk, ⟨_, rfl⟩, q⟩) (by decide +kernel)
  have : sysModules = p := by simpa using hm
  rw [← this] at hs
  exact absurd hs (by decide)
def rdRepr : RDC := fun ds m Q => ∃ d, ds = [d] ∧ ((∃ p, PV m d p ∧ PyData.showable p = true ∧ p.shown.length ≤ sizeLine ∧ p.depth ≤ 60 ∧ Q (.str p.shown) m) ∨ (dcD m d = some [] ∧ Q (.str (PyData.dict []).shown) m))
theorem c_repr (gd : X.A.guards = some []) (hu : X.A.units + 65 < cLine) : CallR X (.builtin "repr") (fun xs H Q => (∃ x p, xs = [x] ∧ Dp X.K H x p ∧ PyData.showable p = true ∧ p.shown.length ≤ sizeLine ∧ p.depth ≤ 60 ∧ Q (.str p.shown) H) ∨
    ∃ p, xs = [.ref p] ∧ H p = some (.dK []) ∧ Q (.str (PyData.dict []).shown) H) := callOr (repr_dat gd hu) (repr_dic0 gd hu)
theorem o_repr : COp X.K (fun xs H Q => (∃ x p, xs = [x] ∧ Dp X.K H x p ∧ PyData.showable p = true ∧ p.shown.length ≤ sizeLine ∧ p.depth ≤ 60 ∧ Q (.str p.shown) H) ∨
    ∃ p, xs = [.ref p] ∧ H p = some (.dK []) ∧ Q (.str (PyData.dict []).shown) H) rdRepr := fun vs ds H m Q Qv a d ⟨e, h1, q⟩ k => by
  subst h1
  cases d with
  | cons d1 d2 =>
    cases d2
    rcases q with ⟨p, h1, h2, h3, h4, q⟩ | ⟨h1, q⟩
    · exact .inl ⟨_, p, rfl, PV.dp a p _ _ h1 d1, h2, h3, h4, k _ _ H m a .refl (.str _) q⟩
    · obtain ⟨p, xs, rfl, hr, hx⟩ := dcD_ok a d1 h1
      cases hx
      exact .inr ⟨p, rfl, hr, k _ _ H m a .refl (.str _) q⟩
end
/-! ### chains of comparisons; x op= e -/
section
variable {X : Cx} {E : XK}
def dChain (rd rd' : RD2) (ta tb tc : TD) : TD := fun tau m Q Ex => ta tau m (fun d m1 => tb tau m1 (fun e m2 => rd d e m2 fun z m3 => ∃ k, z = .bl k ∧ if k = true then tc tau m3 (fun f m4 => rd' e f m4 Q) Ex else Q (.bl false) m3) Ex) Ex
theorem lift_chain {r r' : R2} {rd rd' : RD2} {ta tb tc : TD} (o : Op2 X.K r rd) (o' : Op2 X.K r' rd') : ∀ st H Q, tL X.K E (dChain rd rd' ta tb tc) st H Q → tChain r r' (tL X.K E ta) (tL X.K E tb) (tL X.K E tc) st H Q := by
  rintro st H Qv ⟨tau, m, Q, Ex, rp, h, k, x⟩
  refine ⟨tau, m, _, Ex, rp, h, fun v d H1 m1 a1 f1 dv1 h1 => ?_, x⟩
  refine ⟨tau, m1, _, Ex, rp.step a1 f1, h1, fun w e H2 m2 a2 f2 dv2 h2 => ?_, x.step f1⟩
  refine o v w d e H2 m2 _ _ a2 (dv1.mono f2.same) dv2 h2 fun z dz H3 m3 a3 f3 dv3 ⟨b, e1, h3⟩ => ?_
  subst e1
  cases dv3
  have f13 := (f1.trans f2).trans f3
  refine ⟨b, rfl, ?_⟩
  cases b with
  | false => exact k _ _ H3 m3 a3 f13 (.bl false) h3
  | true => exact ⟨tau, m3, _, Ex, ((rp.step a1 f1).step a2 f2).step a3 f3, h3, fun w4 d4 H4 m4 a4 f4 dv4 h4 => o' w w4 e d4 H4 m4 Q Qv a4 (dv2.mono (f3.trans f4).same) dv4 h4 fun v' d' H' m' a f => k v' d' H' m' a ((f13.trans f4).trans f), (x.step (f1.trans f2)).step f3⟩
theorem de_chain {op op' : CmpOp} {a b c : Expr} {pos : Pos} {r r' : R2} {rd rd' : RD2} {ta tb tc : TD} (ho : OpR X (compareOp op) r) (ho' : OpR X (compareOp op') r') (o : Op2 X.K r rd) (o' : Op2 X.K r' rd') (ha : PE X a (tL X.K E ta)) (hb : PE X b (tL X.K E tb)) (hc : PE X c (tL X.K E tc))
    (hm : lastMarks [op, op'] [b, c] = false := by with_unfolding_all rfl) : PE X (.Compare a [op, op'] [b, c] pos) (tL X.K E (dChain rd rd' ta tb tc)) := pe_imp (pe_chain ho ho' ha hb hc hm) (lift_chain o o')
theorem lift_tb {t : TD} {te : TE} (h : ∀ st H Q, tL X.K E t st H Q → te st H Q) : ∀ st H Q, tLT X.K E (dB t) st H Q → tTest te st H Q := fun st H Qv ⟨tau, m, Q, Ex, rp, q, k, x⟩ => h _ _ _ ⟨tau, m, _, Ex, rp, q, fun v d H1 m1 a1 f1 dv1 h1 => by
    obtain ⟨b, rfl, hb⟩ := h1
    cases dv1
    exact ⟨b, rfl, k b H1 m1 a1 f1 hb⟩, x⟩
theorem dt_chain {op op' : CmpOp} {a b c : Expr} {pos : Pos} {r r' : R2} {rd rd' : RD2} {ta tb tc : TD} (ho : OpR X (compareOp op) r) (ho' : OpR X (compareOp op') r') (o : Op2 X.K r rd) (o' : Op2 X.K r' rd') (ha : PE X a (tL X.K E ta)) (hb : PE X b (tL X.K E tb)) (hc : PE X c (tL X.K E tc))
    (hm : lastMarks [op, op'] [b, c] = false := by with_unfolding_all rfl) : PT X (.Compare a [op, op'] [b, c] pos) (tLT X.K E (dB (dChain rd rd' ta tb tc))) := pt_imp (pt_chain ho ho' ha hb hc hm) (lift_tb (lift_chain o o'))
/-- orders of ints and texts -/
theorem or_lt : OpR X (compareOp .Lt) (fun x y H Q => rI0 (fun i j => .bl (decide (i < j))) x y H Q ∨ ∃ i j, x = .str i ∧ y = .str j ∧ Q (.bl (decide (i.cps.toList < j.cps.toList))) H) := OpR.or op_lt op_lt_str
theorem or_le : OpR X (compareOp .LtE) (fun x y H Q => rI0 (fun i j => .bl (decide (i ≤ j))) x y H Q ∨ ∃ i j, x = .str i ∧ y = .str j ∧ Q (.bl (!decide (j.cps.toList < i.cps.toList))) H) := OpR.or op_le op_le_str
theorem or_gt : OpR X (compareOp .Gt) (fun x y H Q => rI0 (fun i j => .bl (decide (j < i))) x y H Q ∨ ∃ i j, x = .str i ∧ y = .str j ∧ Q (.bl (decide (j.cps.toList < i.cps.toList))) H) := OpR.or op_gt op_gt_str
theorem or_ge : OpR X (compareOp .GtE) (fun x y H Q => rI0 (fun i j => .bl (decide (j ≤ i))) x y H Q ∨ ∃ i j, x = .str i ∧ y = .str j ∧ Q (.bl (!decide (i.cps.toList < j.cps.toList))) H) := OpR.or op_ge op_ge_str
abbrev rdLt : RD2 := rdCmp (fun i j => decide (i < j)) fun a b => decide (a.cps.toList < b.cps.toList)
abbrev rdLe : RD2 := rdCmp (fun i j => decide (i ≤ j)) fun a b => !decide (b.cps.toList < a.cps.toList)
abbrev rdGt : RD2 := rdCmp (fun i j => decide (j < i)) fun a b => decide (b.cps.toList < a.cps.toList)
abbrev rdGe : RD2 := rdCmp (fun i j => decide (j ≤ i)) fun a b => !decide (a.cps.toList < b.cps.toList)
theorem o_lt : Op2 X.K (fun x y H Q => rI0 (fun i j => .bl (decide (i < j))) x y H Q ∨ ∃ i j, x = .str i ∧ y = .str j ∧ Q (.bl (decide (i.cps.toList < j.cps.toList))) H) rdLt := o_cmp (p := fun i j => decide (i < j)) (q := fun a b => decide (a.cps.toList < b.cps.toList))
theorem o_le : Op2 X.K (fun x y H Q => rI0 (fun i j => .bl (decide (i ≤ j))) x y H Q ∨ ∃ i j, x = .str i ∧ y = .str j ∧ Q (.bl (!decide (j.cps.toList < i.cps.toList))) H) rdLe := o_cmp (p := fun i j => decide (i ≤ j)) (q := fun a b => !decide (b.cps.toList < a.cps.toList))
theorem o_gt : Op2 X.K (fun x y H Q => rI0 (fun i j => .bl (decide (j < i))) x y H Q ∨ ∃ i j, x = .str i ∧ y = .str j ∧ Q (.bl (decide (j.cps.toList < i.cps.toList))) H) rdGt := o_cmp (p := fun i j => decide (j < i)) (q := fun a b => decide (b.cps.toList < a.cps.toList))
theorem o_ge : Op2 X.K (fun x y H Q => rI0 (fun i j => .bl (decide (j ≤ i))) x y H Q ∨ ∃ i j, x = .str i ∧ y = .str j ∧ Q (.bl (!decide (i.cps.toList < j.cps.toList))) H) rdGe := o_cmp (p := fun i j => decide (j ≤ i)) (q := fun a b => !decide (a.cps.toList < b.cps.toList))
/-- is None -/
def isNonD : D → Bool
  | .non => true
  | _ => false
theorem isNon_dv {K : PySem.W.Frag} {G : Hp} {v : V} {d : D} (r : Dv K G v d) : decide (v = .non) = isNonD d := by
  cases r <;> first | rfl | exact decide_eq_false (by intro z; cases z)
def rdIsN (neg : Bool) : RD2 := fun d e m Q => e = .non ∧ Q (.bl (if neg then !isNonD d else isNonD d)) m
def rdIsB (neg : Bool) : RD2 := fun d e m Q => ∃ a b, d = .bl a ∧ e = .bl b ∧ Q (.bl (if neg then !decide (a = b) else decide (a = b))) m
theorem o_isN : Op2 X.K (fun x y H Q => y = .non ∧ Q (.bl (decide (x = .non))) H) (rdIsN false) := by
  intro v w d e H m Q Qv a r1 r2 ⟨e1, h⟩ k
  subst e1
  cases r2
  exact ⟨rfl, by rw [isNon_dv r1]; exact k _ _ H m a .refl (.bl _) h⟩
theorem o_notN : Op2 X.K (fun x y H Q => y = .non ∧ Q (.bl (!decide (x = .non))) H) (rdIsN true) := by
  intro v w d e H m Q Qv a r1 r2 ⟨e1, h⟩ k
  subst e1
  cases r2
  exact ⟨rfl, by rw [isNon_dv r1]; exact k _ _ H m a .refl (.bl _) h⟩
theorem o_isB : Op2 X.K (fun x y H Q => ∃ a b, x = .bl a ∧ y = .bl b ∧ Q (.bl (decide (a = b))) H) (rdIsB false) := by
  intro v w d e H m Q Qv a r1 r2 ⟨b, c, e1, e2, h⟩ k
  subst e1 e2
  cases r1; cases r2
  exact ⟨_, _, rfl, rfl, k _ _ H m a .refl (.bl _) h⟩
theorem o_isNotB : Op2 X.K (fun x y H Q => ∃ a b, x = .bl a ∧ y = .bl b ∧ Q (.bl (!decide (a = b))) H) (rdIsB true) := by
  intro v w d e H m Q Qv a r1 r2 ⟨b, c, e1, e2, h⟩ k
  subst e1 e2
  cases r1; cases r2
  exact ⟨_, _, rfl, rfl, k _ _ H m a .refl (.bl _) h⟩
/-- -a -/
def dUn (rd : D → Mu → DQ → Prop) (t : TD) : TD := fun tau m Q Ex => t tau m (fun d m1 => rd d m1 Q) Ex
def rdNeg : D → Mu → DQ → Prop
  | .int i, m, Q => Q (.int (-i)) m
  | _, _, _ => False
theorem de_neg {a : Expr} {pos : Pos} {t : TD} (ha : PE X a (tL X.K E t)) : PE X (.UnaryOp .USub a pos) (tL X.K E (dUn rdNeg t)) := pe_imp (pe_un un_neg ha) fun st H Qv ⟨tau, m, Q, Ex, rp, h, k, x⟩ =>
  ⟨tau, m, _, Ex, rp, h, fun v d H1 m1 a1 f1 dv1 h1 => by
    unfold rdNeg at h1
    split at h1
    · cases dv1
      exact ⟨_, rfl, k _ _ H1 m1 a1 f1 (.int _) h1⟩
    · exact h1.elim, x⟩
/-- name op= e -/
def dAug (i : Nat) (rd : RD2) (t : TD) : TDS := fun D tau m => ∃ d0, tau[i]? = some (some d0) ∧ t tau m (fun e m1 => rd d0 e m1 fun z m2 => D.nx (tau.set i (some z)) m2) D.ex
theorem pip_of {op : Operator} {r : R2} (ho : OpR X (inplaceOp op) r) : PIp X op (fun x y H Q => r x y H Q) := fun pins s st H x y v u Q I rx ry h => ho pins s st H x y v u Q I rx ry h
theorem lift_aug {i : Nat} {r : R2} {rd : RD2} {t : TD} (o : Op2 X.K r rd) : ∀ D st H, tLS X.K E (dAug i rd t) D st H → tAug i (tL X.K E t) (fun x y H Q => r x y H Q) D st H := fun D st H ⟨tau, m, DD, rp, ⟨d0, e0, h⟩, l⟩ => by
  obtain ⟨v0, e1, dv0⟩ := rp.env.get e0
  refine ⟨v0, e1, tau, m, _, DD.ex, rp, h, fun v d H1 m1 a1 f1 dv1 h1 => ?_, l.ex⟩
  refine o v0 v d0 d H1 m1 _ _ a1 (dv0.mono f1.same) dv1 h1 fun v' d' H' m' a f dv' h' => ?_
  exact l.nx _ _ _ _ ⟨a, (((rp.step a1 f1).step a f).env).set dv' i⟩ (f1.trans f) h'
end
end DL
/-! DL7: small words for the printed terms. -/
namespace DL
open PySem PySem.Spec PyProof.Rows L2
theorem hu65 {k : Nat} {A : Around} (r : Room k A) : A.units + 65 < cLine := by have := r.un; omega
theorem hu64 {k : Nat} {A : Around} (r : Room k A) : A.units + 64 < cLine := by have := r.un; omega
theorem hu1 {k : Nat} {A : Around} (r : Room k A) : A.units + 1 < cLine := by have := r.un; omega
theorem passAny {X : Cx} {E : XK} : Passes CX0 X E := fun _ _ _ _ _ _ _ h => h.elim
/-! promises by the number of parameters -/
def sp0 (f : Mu → DQ → DX → Prop) : DSp := fun ds m Q Ex => ds = [] ∧ f m Q Ex
def sp1 (f : D → Mu → DQ → DX → Prop) : DSp := fun ds m Q Ex => ∃ a, ds = [a] ∧ f a m Q Ex
def sp2 (f : D → D → Mu → DQ → DX → Prop) : DSp := fun ds m Q Ex => ∃ a b, ds = [a, b] ∧ f a b m Q Ex
def sp3 (f : D → D → D → Mu → DQ → DX → Prop) : DSp := fun ds m Q Ex => ∃ a b c, ds = [a, b, c] ∧ f a b c m Q Ex
def sp4 (f : D → D → D → D → Mu → DQ → DX → Prop) : DSp := fun ds m Q Ex => ∃ a b c d, ds = [a, b, c, d] ∧ f a b c d m Q Ex
def sp5 (f : D → D → D → D → D → Mu → DQ → DX → Prop) : DSp := fun ds m Q Ex => ∃ a b c d e, ds = [a, b, c, d, e] ∧ f a b c d e m Q Ex
theorem sp0_len {f : Mu → DQ → DX → Prop} : ∀ ds m Q Ex, sp0 f ds m Q Ex → ds.length = 0 := fun _ _ _ _ ⟨e, _⟩ => by rw [e]; rfl
theorem sp1_len {f : D → Mu → DQ → DX → Prop} : ∀ ds m Q Ex, sp1 f ds m Q Ex → ds.length = 1 := fun _ _ _ _ ⟨_, e, _⟩ => by rw [e]; rfl
theorem sp2_len {f : D → D → Mu → DQ → DX → Prop} : ∀ ds m Q Ex, sp2 f ds m Q Ex → ds.length = 2 := fun _ _ _ _ ⟨_, _, e, _⟩ => by rw [e]; rfl
theorem sp3_len {f : D → D → D → Mu → DQ → DX → Prop} : ∀ ds m Q Ex, sp3 f ds m Q Ex → ds.length = 3 := fun _ _ _ _ ⟨_, _, _, e, _⟩ => by rw [e]; rfl
theorem sp4_len {f : D → D → D → D → Mu → DQ → DX → Prop} : ∀ ds m Q Ex, sp4 f ds m Q Ex → ds.length = 4 := fun _ _ _ _ ⟨_, _, _, _, e, _⟩ => by rw [e]; rfl
theorem sp5_len {f : D → D → D → D → D → Mu → DQ → DX → Prop} : ∀ ds m Q Ex, sp5 f ds m Q Ex → ds.length = 5 := fun _ _ _ _ ⟨_, _, _, _, _, e, _⟩ => by rw [e]; rfl
section
variable {X : Cx} {E : XK}
/-- a cut behind a statement -/
def dCut (t u : TDS) : TDS := fun D tau m => ∃ Pm : DEnv → Mu → Prop, t { D with nx := Pm } tau m ∧ ∀ tau' m', Pm tau' m' → u D tau' m'
theorem dss_cut {s : Stmt} {ss : List Stmt} {t u : TDS} (h1 : PS X s (tLS X.K E t)) (h2 : PSs X ss (tLS X.K E u)) : PSs X (s :: ss) (tLS X.K E (dCut t u)) := pss_imp (pss_cons h1 h2) fun D st H ⟨tau, m, DD, rp, ⟨Pm, h, k⟩, l⟩ =>
  ⟨tau, m, _, rp, h, ⟨fun st' H' tau' m' rp' f' h' => ⟨tau', m', DD, rp', k tau' m' h', l.step f'⟩, l.rt, l.bk, l.ct, l.ex⟩⟩
def dPar (i j : Nat) (t : TDA) : TDS := fun D tau m => t tau m (fun ds m1 => ∃ d e, ds = [d, e] ∧ D.nx ((tau.set i (some d)).set j (some e)) m1) D.ex
theorem lift_par {i j : Nat} {t : TDA} : ∀ D st H, tLS X.K E (dPar i j t) D st H → tPar i j (tLA X.K E t) D st H := fun D st H ⟨tau, m, DD, rp, q, l⟩ => ⟨tau, m, _, DD.ex, rp, q, fun vs ds H1 m1 a1 f1 dv ⟨d, e, e1, h1⟩ => by
    subst e1
    cases dv with
    | cons d1 d2 =>
      cases d2 with
      | cons d2 d3 =>
        cases d3
        exact ⟨_, _, rfl, l.nx _ _ _ _ ⟨a1, (((rp.step a1 f1).env).set d1 i).set d2 j⟩ f1 h1⟩, l.ex⟩
/-- list(range(..)) -/
def dRg1 (mk : Bool) (t : TD) : TD := fun tau m Q Ex => t tau m (fun d m1 => ∃ n, d = .int n ∧ n ≤ 16777216 ∧ -(2 ^ 62) ≤ n ∧ mkL mk (rangeD 0 n.toNat) m1 Q) Ex
theorem rgV_dv {K : PySem.W.Frag} {G : Hp} (a b : Int) : DvAll K G (rgV a b) (rangeD a (b - a).toNat) := by
  unfold rgV rangeD
  generalize List.range (b - a).toNat = l
  induction l with
  | nil => exact .nil
  | cons x r ih => exact .cons (.int _) ih
theorem lift_rg1 {mk : Bool} {t : TD} : ∀ st H Q, tL X.K E (dRg1 mk t) st H Q → tLstRg (tRg1 (tL X.K E t)) st H Q := fun st H Qv ⟨tau, m, Q, Ex, rp, h, k, x⟩ => ⟨tau, m, _, Ex, rp, h, fun v d H1 m1 a1 f1 dv ⟨n, e, b1, b2, q⟩ => by
  subst e
  cases dv
  refine ⟨n, rfl, ⟨by decide, by decide, b2, by omega, by omega⟩, ?_⟩
  have := rgV_dv (K := X.K) (G := hid m1 H1) 0 n
  rw [Int.sub_zero] at this
  exact mkL_ok a1 this (by unfold rgV; rw [List.length_map, List.length_range]; rw [sizeLine_eq]; omega) q fun v' d' H' m' a f => k v' d' H' m' a (f1.trans f), x⟩
def dRg2 (mk : Bool) (t u : TD) : TD := fun tau m Q Ex => t tau m (fun d m1 => u tau m1 (fun e m2 => ∃ i j, d = .int i ∧ e = .int j ∧ RgOk i j ∧ mkL mk (rangeD i (j - i).toNat) m2 Q) Ex) Ex
theorem lift_rg2 {mk : Bool} {t u : TD} : ∀ st H Q, tL X.K E (dRg2 mk t u) st H Q → tLstRg (tRg2 (tL X.K E t) (tL X.K E u)) st H Q := fun st H Qv ⟨tau, m, Q, Ex, rp, h, k, x⟩ => ⟨tau, m, _, Ex, rp, h, fun v d H1 m1 a1 f1 dv h1 =>
  ⟨tau, m1, _, Ex, rp.step a1 f1, h1, fun w e H2 m2 a2 f2 dw ⟨i, j, e1, e2, b, q⟩ => by
    subst e1 e2
    cases dv; cases dw
    exact ⟨i, j, rfl, rfl, b, mkL_ok a2 (rgV_dv i j) (by unfold rgV; rw [List.length_map, List.length_range]; exact Nat.le_trans b.2.2.2.2 (by decide)) q fun v' d' H' m' a f => k v' d' H' m' a ((f1.trans f2).trans f)⟩, x.step f1⟩, x⟩
end
/-! ends -/
section
variable {K : PySem.W.Frag}
theorem gq {Q : DQ} {d : D} {m : Mu} (h : Q d m) : Gq K Q d m := ⟨d, m, Gh.refl, h⟩
end
end DL
/-! DL8: plain data; views; borrowed arguments; isinstance by classes. -/
namespace DL
open PySem PySem.Spec PyProof.Rows L2
/-! ### plain data -/
mutual
def plain : D → Bool
  | .non | .bl _ | .int _ | .str _ => true
  | .lst ds => plainAll ds
  | .tup ds => plainAll ds
  | .dic kvs => kvs.isEmpty
  | .ref _ | .ins _ _ | .ty _ | .scr _ => false
def plainAll : List D → Bool
  | [] => true
  | d :: ds => plain d && plainAll ds
end
mutual
def toP : D → PyData
  | .non => .none
  | .bl b => .bool b
  | .int i => .int i
  | .str x => .str x
  | .lst ds => .list (toPs ds)
  | .scr ds => .list (toPs ds)
  | .tup ds => .tuple (toPs ds)
  | .dic _ => .dict []
  | .ref _ => .none
  | .ins _ _ => .none
  | .ty _ => .none
def toPs : List D → List PyData
  | [] => []
  | d :: ds => toP d :: toPs ds
end
theorem toPs_eq : ∀ ds : List D, toPs ds = ds.map toP
  | [] => rfl
  | d :: ds => by rw [toPs, toPs_eq ds, List.map_cons]
theorem plainAll_eq : ∀ ds : List D, plainAll ds = ds.all plain
  | [] => rfl
  | d :: ds => by rw [plainAll, plainAll_eq ds, List.all_cons]
mutual
theorem PV.plain {m : Mu} : ∀ d : D, plain d = true → (toP d).hasDict = false → PV m d (toP d)
  | .non, _, _ => by rw [toP]; exact .non
  | .bl b, _, _ => by rw [toP]; exact .bl b
  | .int b, _, _ => by rw [toP]; exact .int b
  | .str b, _, _ => by rw [toP]; exact .str b
  | .lst ds, h, g => by
    rw [toP] at g ⊢
    exact .lst (PVs.plain ds (by simpa [DL.plain] using h) (by simpa [PyData.hasDict] using g))
  | .scr ds, h, g => by simp [DL.plain] at h
  | .tup ds, h, g => by
    rw [toP] at g ⊢
    exact .tup (PVs.plain ds (by simpa [DL.plain] using h) (by simpa [PyData.hasDict] using g))
  | .dic kvs, h, g => by rw [toP] at g; simp [PyData.hasDict] at g
  | .ref _, h, _ => by simp [DL.plain] at h
  | .ins _ _, h, _ => by simp [DL.plain] at h
  | .ty _, h, _ => by simp [DL.plain] at h
theorem PVs.plain {m : Mu} : ∀ ds : List D, plainAll ds = true → PyData.hasDictAll (toPs ds) = false → PVs m ds (toPs ds)
  | [], _, _ => by rw [toPs]; exact .nil
  | d :: ds, h, g => by
    rw [toPs] at g ⊢
    have h' : DL.plain d = true ∧ plainAll ds = true := by simpa [plainAll] using h
    have g' : (toP d).hasDict = false ∧ PyData.hasDictAll (toPs ds) = false := by simpa [PyData.hasDictAll] using g
    exact .cons (PV.plain d h'.1 g'.1) (PVs.plain ds h'.2 g'.2)
end
/-! ### isinstance of frozen data -/
def isIntT : D → Bool
  | .int _ | .bl _ => true
  | _ => false
def isBoolT : D → Bool
  | .bl _ => true
  | _ => false
def isListT : D → Bool
  | .lst _ | .scr _ => true
  | _ => false
def isTupT : D → Bool
  | .tup _ => true
  | _ => false
def isStrT : D → Bool
  | .str _ => true
  | _ => false
def isDicT : D → Bool
  | .dic _ => true
  | _ => false
/-- frozen: its class is known -/
def fz : D → Bool
  | .ref _ | .ins _ _ | .ty _ => false
  | _ => true
theorem fz_plain {d : D} (h : plain d = true) : fz d = true := by
  cases d <;> first | rfl | (simp [plain] at h)
def rdIsT (c : String) (f : D → Bool) : RDC := fun ds m Q => ∃ d, ds = [d, .ty c] ∧ fz d = true ∧ Q (.bl (f d)) m
def KitF (c : String) (f : D → Bool) : Prop := kitB "NoneType" c = some (f .non) ∧ (∀ b, kitB "bool" c = some (f (.bl b))) ∧ (∀ b, kitB "int" c = some (f (.int b))) ∧ (∀ b, kitB "str" c = some (f (.str b))) ∧ (∀ b, kitB "list" c = some (f (.lst b))) ∧ (∀ b, kitB "list" c = some (f (.scr b))) ∧
  (∀ b, kitB "tuple" c = some (f (.tup b))) ∧ (∀ b, kitB "dict" c = some (f (.dic b)))
theorem o_isT {X : Cx} {c : String} {f : D → Bool} (h : KitF c f) : COp X.K (rIsi X.K) (rdIsT c f) := fun vs ds H m Q Qv a d ⟨e, h1, h2, q⟩ k => by
  subst h1
  obtain ⟨k1, k2, k3, k4, k5, k6, k7, k8⟩ := h
  have go : ∀ n, tyD m e = some n → kitB n c = some (f e) → rIsi X.K vs H Qv := fun n t1 t2 => o_isi vs _ H m Q Qv a d ⟨e, n, c, _, rfl, t1, t2, q⟩ k
  cases e with
  | non => exact go _ rfl k1
  | bl b => exact go _ rfl (k2 b)
  | int b => exact go _ rfl (k3 b)
  | str b => exact go _ rfl (k4 b)
  | lst b => exact go _ rfl (k5 b)
  | scr b => exact go _ rfl (k6 b)
  | tup b => exact go _ rfl (k7 b)
  | dic b => exact go _ rfl (k8 b)
  | ref _ => cases h2
  | ins _ _ => cases h2
  | ty _ => cases h2
theorem kf_int : KitF "int" isIntT := ⟨by decide +kernel, fun _ => by show _ = some true; decide +kernel, fun _ => by show _ = some true; decide +kernel, fun _ => by show _ = some false; decide +kernel, fun _ => by show _ = some false; decide +kernel, fun _ => by show _ = some false; decide +kernel, fun _ => by show _ = some false; decide +kernel, fun _ => by show _ = some false; decide +kernel⟩
theorem kf_bool : KitF "bool" isBoolT := ⟨by decide +kernel, fun _ => by show _ = some true; decide +kernel, fun _ => by show _ = some false; decide +kernel, fun _ => by show _ = some false; decide +kernel, fun _ => by show _ = some false; decide +kernel, fun _ => by show _ = some false; decide +kernel, fun _ => by show _ = some false; decide +kernel, fun _ => by show _ = some false; decide +kernel⟩
theorem kf_list : KitF "list" isListT := ⟨by decide +kernel, fun _ => by show _ = some false; decide +kernel, fun _ => by show _ = some false; decide +kernel, fun _ => by show _ = some false; decide +kernel, fun _ => by show _ = some true; decide +kernel, fun _ => by show _ = some true; decide +kernel, fun _ => by show _ = some false; decide +kernel, fun _ => by show _ = some false; decide +kernel⟩
theorem kf_tuple : KitF "tuple" isTupT := ⟨by decide +kernel, fun _ => by show _ = some false; decide +kernel, fun _ => by show _ = some false; decide +kernel, fun _ => by show _ = some false; decide +kernel, fun _ => by show _ = some false; decide +kernel, fun _ => by show _ = some false; decide +kernel, fun _ => by show _ = some true; decide +kernel, fun _ => by show _ = some false; decide +kernel⟩
theorem kf_str : KitF "str" isStrT := ⟨by decide +kernel, fun _ => by show _ = some false; decide +kernel, fun _ => by show _ = some false; decide +kernel, fun _ => by show _ = some true; decide +kernel, fun _ => by show _ = some false; decide +kernel, fun _ => by show _ = some false; decide +kernel, fun _ => by show _ = some false; decide +kernel, fun _ => by show _ = some false; decide +kernel⟩
/-! ### views: objects of the store as frozen lists -/
section
variable (m : Mu) (A : Addr → Bool)
mutual
inductive Vw : D → D → Prop
  | same (d : D) : Vw d d
  | ref {p : Addr} {ds es : List D} : m p = some (.lst ds) → A p = true → Vws ds es → Vw (.ref p) (.lst es)
  | lst {ds es : List D} : Vws ds es → Vw (.lst ds) (.lst es)
  | tup {ds es : List D} : Vws ds es → Vw (.tup ds) (.tup es)
inductive Vws : List D → List D → Prop
  | nil : Vws [] []
  | cons {d e : D} {ds es : List D} : Vw d e → Vws ds es → Vws (d :: ds) (e :: es)
end
end
/-- the store without the objects at A -/
def outM (m : Mu) (A : Addr → Bool) : Mu := fun b => if A b = true then none else m b
theorem outM_sub {m : Mu} {A : Addr → Bool} : ∀ b o, outM m A b = some o → m b = some o := fun b o e => by
  unfold outM at e
  split at e
  · cases e
  · exact e
section
variable {K : PySem.W.Frag} {m : Mu} {A : Addr → Bool} {H : Hp}
mutual
theorem Vw.dv (a : MuOk K m H) : ∀ {d e : D} {v : V}, Vw m A d e → Dv K (hid m H) v d → Dv K (hid (outM m A) H) v e
  | _, _, _, .same d, r => r.mono (sub_ok a outM_sub).2.same
  | _, _, _, .ref hm hA hs, r => by
    cases r
    obtain ⟨xs, h1, l, q⟩ := a _ _ hm
    exact .lst (by rw [hid_none (show outM m A _ = none by unfold outM; rw [if_pos hA])]; exact h1) l (Vws.dv a hs q)
  | _, _, _, .lst hs, r => by
    cases r with
    | lst h1 l q => exact .lst ((sub_ok a outM_sub).2.same _ _ h1) l (Vws.dv a hs q)
  | _, _, _, .tup hs, r => by
    cases r with
    | tup h1 l q =>
      have e := (sub_ok a (outM_sub (A := A))).2.same
      refine .tup ?_ l (Vws.dv a hs q)
      rcases h1 with (h | ⟨o, h⟩) | h
      · exact .inl (.inl (e _ _ h))
      · exact .inl (.inr ⟨o, e _ _ h⟩)
      · exact .inr h
theorem Vws.dv (a : MuOk K m H) : ∀ {ds es : List D} {vs : List V}, Vws m A ds es → DvAll K (hid m H) vs ds → DvAll K (hid (outM m A) H) vs es
  | _, _, _, .nil, r => by cases r; exact .nil
  | _, _, _, .cons h1 h2, r => by
    cases r with
    | cons r1 r2 => exact .cons (Vw.dv a h1 r1) (Vws.dv a h2 r2)
end
theorem Vws.same : ∀ ds : List D, Vws m A ds ds
  | [] => .nil
  | d :: ds => .cons (.same d) (Vws.same ds)
/-- what is handed back, with objects of the store frozen -/
theorem Gh.vw {d e : D} {m' : Mu} (h : Vw m A d e) (s : ∀ b o, m' b = some o → outM m A b = some o) : Gh K d m e m' := fun H v a dv => by
  obtain ⟨x1, y1⟩ := sub_ok a (outM_sub (A := A))
  obtain ⟨x2, y2⟩ := sub_ok x1 s
  exact ⟨x2, y1.trans y2, (Vw.dv a h dv).mono y2.same⟩
end
def scal : D → Bool
  | .non | .bl _ | .int _ | .str _ => true
  | _ => false
theorem scal_dv {K : PySem.W.Frag} {G G' : Hp} {v : V} {d : D} (h : DL.scal d = true) (r : Dv K G v d) : Dv K G' v d := by
  cases r <;> first | (cases h; done) | constructor
def emp : Mu := fun _ => none
theorem outM_all {m : Mu} : outM m (fun _ => true) = emp := by
  funext b
  unfold outM
  rw [if_pos rfl]
  rfl
/-- f(..) with arguments lent as views, the whole store frozen meanwhile; the answer is a scalar -/
def dLend (sp : DSp) (t : TDA) : TD := fun tau m Q Ex => t tau m (fun ds m1 => ∃ es : List D, Vws m1 (fun _ => true) ds es ∧ sp es emp (fun d _ => DL.scal d = true ∧ Q d m1) NX) Ex
theorem lift_lend {X : Cx} {E : XK} {sp : DSp} {t : TDA} : ∀ st H Q, tL X.K E (dLend sp t) st H Q → tCall (spD X.K sp) [] E (tLA X.K E t) st H Q := fun st H Qv ⟨tau, m, Q, Ex, rp, h, k, x⟩ =>
  ⟨tau, m, _, Ex, rp, h, fun vs ds H1 m1 a1 f1 dv1 ⟨es, hv, h1⟩ => by
    show spD X.K sp (vs ++ []) H1 Qv E
    rw [List.append_nil]
    obtain ⟨x1, y1⟩ := sub_ok a1 (outM_sub (A := fun _ => true))
    have hd := Vws.dv a1 hv dv1
    rw [outM_all] at x1 y1 hd
    refine ⟨es, emp, _, NX, x1, hd, h1, fun v d H' m' a f dv ⟨hs, q⟩ => ?_, xok_nx⟩
    have all : ∀ b o, H1 b = some o → H' b = some o := fun b o e => (f b o rfl e).2
    have f' : Fr m1 H1 m1 H' := fun b o h e => ⟨h, all b o e⟩
    have a' : MuOk X.K m1 H' := fun p o e => by
      have e0 := a1 p o e
      obtain ⟨z, hz⟩ := e0.there
      rw [all p z hz, ← hz]
      exact e0.mono f'.same
    exact k v d H' m1 a' (f1.trans f') (scal_dv hs dv) q, x⟩
end DL
/-! DL9: comprehensions and loops by plain functions; lists. -/
namespace DL
open PySem PySem.Spec PyProof.Rows L2
theorem updM_upd {m : Mu} {p : Addr} {a b : MO} : updM (updM m p a) p b = updM m p b := by
  funext q; unfold updM; split <;> rfl
theorem updM_self {m : Mu} {p : Addr} {o : MO} (h : m p = some o) : updM m p o = m := by
  funext q; unfold updM; split
  · rename_i e; rw [e, h]
  · rfl
theorem delM_upd {m : Mu} {p : Addr} {o : MO} (h : m p = none) : delM (updM m p o) p = m := by
  funext q; unfold delM updM; split
  · rename_i e; rw [e, h]
  · rfl
theorem delM_updM {m : Mu} {p : Addr} {o : MO} : delM (updM m p o) p = delM m p := by
  funext q; unfold delM updM; split <;> rfl
theorem updM_comm {m : Mu} {p q : Addr} {a b : MO} (h : p ≠ q) : updM (updM m p a) q b = updM (updM m q b) p a := by
  funext r; unfold updM
  by_cases h1 : r = q
  · by_cases h2 : r = p
    · exact absurd (h2.symm.trans h1) h
    · rw [if_pos h1, if_neg h2, if_pos h1]
  · by_cases h2 : r = p
    · rw [if_neg h1, if_pos h2, if_pos h2]
    · rw [if_neg h1, if_neg h2, if_neg h2, if_neg h1]
section
variable {gd : TDG} {tt : TDT} {te : TD} {vs : List Nat} {tau : DEnv} {keep : Mu → Prop} {p : Addr}
theorem go_map (f : D → D) (hk : ∀ m', keep m') {Q : List D → Mu → Prop} : ∀ (xs : List D) (acc : List D) (m : Mu), (∀ x ∈ xs, ∀ (m' : Mu) (Qe : DQ), Qe (f x) m' → gd x (wipeD tau vs) m' (fun tau2 m2 => te tau2 m2 Qe NX) NX) →
    acc.length + xs.length ≤ sizeLine → m p = some (.lst acc) → Q (acc ++ xs.map f) (updM m p (.lst (acc ++ xs.map f))) → dLcGo gd dYes te vs tau keep p xs acc m Q
  | [], acc, m, _, _, hm, hq => by
    rw [List.map_nil, List.append_nil, updM_self hm] at hq
    exact ⟨hk m, hm, hq⟩
  | x :: xs, acc, m, hx, hl, hm, hq => by
    rw [List.length_cons] at hl
    refine ⟨hk m, ?_⟩
    show gd x (wipeD tau vs) m (fun tau2 m2 => te tau2 m2 (fun y m4 => m4 p = some (.lst acc) ∧ acc.length < sizeLine ∧ dLcGo gd dYes te vs tau keep p xs (acc ++ [y]) (updM m4 p (.lst (acc ++ [y]))) Q) NX) NX
    refine hx x List.mem_cons_self m _ ⟨hm, by omega, ?_⟩
    refine go_map f hk xs (acc ++ [f x]) _ (fun y hy => hx y (List.mem_cons_of_mem _ hy)) (by rw [List.length_append, List.length_singleton]; omega) updM_same ?_
    rw [updM_upd, List.append_assoc]
    exact hq
/-- [f x for x in xs], frozen -/
theorem lc_map (f : D → D) {xs : List D} {m : Mu} {R : DQ} (hk : ∀ m', keep m') (hx : ∀ x ∈ xs, ∀ (m' : Mu) (Qe : DQ), Qe (f x) m' → gd x (wipeD tau vs) m' (fun tau2 m2 => te tau2 m2 Qe NX) NX) (hl : xs.length ≤ sizeLine) (hq : R (.lst (xs.map f)) m) :
    ∀ p, m p = none → dLcGo gd dYes te vs tau keep p xs [] (updM m p (.lst [])) (fun acc m2 => R (.lst acc) (delM m2 p)) := fun p n =>
  go_map f hk xs [] _ hx (by rw [List.length_nil]; omega) updM_same (by rw [List.nil_append, updM_upd, delM_upd n]; exact hq)
theorem go_filter (c : D → Bool) (f : D → D) (hk : ∀ m', keep m') {Q : List D → Mu → Prop} : ∀ (xs : List D) (acc : List D) (m : Mu), (∀ x ∈ xs, ∀ (m' : Mu) (K1 : DQ) (K2 : Mu → Prop), (c x = true → K1 (f x) m') → (c x = false → K2 m') →
      gd x (wipeD tau vs) m' (fun tau2 m2 => tt tau2 m2 (fun b m3 => if b = true then te tau2 m3 K1 NX else K2 m3) NX) NX) →
    acc.length + xs.length ≤ sizeLine → m p = some (.lst acc) → Q (acc ++ (xs.filter c).map f) (updM m p (.lst (acc ++ (xs.filter c).map f))) → dLcGo gd tt te vs tau keep p xs acc m Q
  | [], acc, m, _, _, hm, hq => by
    rw [List.filter_nil, List.map_nil, List.append_nil, updM_self hm] at hq
    exact ⟨hk m, hm, hq⟩
  | x :: xs, acc, m, hx, hl, hm, hq => by
    rw [List.length_cons] at hl
    refine ⟨hk m, ?_⟩
    refine hx x List.mem_cons_self m (fun y m4 => m4 p = some (.lst acc) ∧ acc.length < sizeLine ∧ dLcGo gd tt te vs tau keep p xs (acc ++ [y]) (updM m4 p (.lst (acc ++ [y]))) Q) (fun m3 => dLcGo gd tt te vs tau keep p xs acc m3 Q) (fun e => ⟨hm, by omega, ?_⟩) (fun e => ?_)
    · refine go_filter c f hk xs (acc ++ [f x]) _ (fun y hy => hx y (List.mem_cons_of_mem _ hy)) (by rw [List.length_append, List.length_singleton]; omega) updM_same ?_
      rw [List.filter_cons_of_pos e] at hq
      rw [updM_upd, List.append_assoc]
      exact hq
    · refine go_filter c f hk xs acc m (fun y hy => hx y (List.mem_cons_of_mem _ hy)) (by omega) hm ?_
      rw [List.filter_cons_of_neg (by rw [e]; exact Bool.false_ne_true)] at hq
      exact hq
/-- [f x for x in xs if c x], frozen -/
theorem lc_filter (c : D → Bool) (f : D → D) {xs : List D} {m : Mu} {R : DQ} (hk : ∀ m', keep m') (hx : ∀ x ∈ xs, ∀ (m' : Mu) (K1 : DQ) (K2 : Mu → Prop), (c x = true → K1 (f x) m') → (c x = false → K2 m') →
      gd x (wipeD tau vs) m' (fun tau2 m2 => tt tau2 m2 (fun b m3 => if b = true then te tau2 m3 K1 NX else K2 m3) NX) NX) (hl : xs.length ≤ sizeLine) (hq : R (.lst ((xs.filter c).map f)) m) :
    ∀ p, m p = none → dLcGo gd tt te vs tau keep p xs [] (updM m p (.lst [])) (fun acc m2 => R (.lst acc) (delM m2 p)) := fun p n =>
  go_filter c f hk xs [] _ hx (by rw [List.length_nil]; omega) updM_same (by rw [List.nil_append, updM_upd, delM_upd n]; exact hq)
/-- .. into the store -/
theorem lcM_map (f : D → D) {xs : List D} {m : Mu} {R : DQ} (hk : ∀ m', keep m') (hx : ∀ x ∈ xs, ∀ (m' : Mu) (Qe : DQ), Qe (f x) m' → gd x (wipeD tau vs) m' (fun tau2 m2 => te tau2 m2 Qe NX) NX) (hl : xs.length ≤ sizeLine) {p : Addr} (hq : R (.ref p) (updM m p (.lst (xs.map f)))) :
    dLcGo gd dYes te vs tau keep p xs [] (updM m p (.lst [])) (fun _ m2 => R (.ref p) m2) :=
  go_map f hk xs [] _ hx (by rw [List.length_nil]; omega) updM_same (by rw [List.nil_append, updM_upd]; exact hq)
/-- what is walked is xs, whatever the store becomes -/
def Walks (ti : TDI) (tau : DEnv) (m : Mu) (Ex : DX) (xs : List D) : Prop := ∀ QQ : List D → (Mu → Prop) → Mu → Prop, (∀ keep : Mu → Prop, (∀ m', keep m') → xs.length ≤ sizeLine → QQ xs keep m) → ti tau m QQ Ex
theorem dlc_map {ti : TDI} {m : Mu} {Q : DQ} {Ex : DX} (xs : List D) (f : D → D) (hti : Walks ti tau m Ex xs) (hx : ∀ x ∈ xs, ∀ (m' : Mu) (Qe : DQ), Qe (f x) m' → gd x (wipeD tau vs) m' (fun tau2 m2 => te tau2 m2 Qe NX) NX)
    (hq : xs.length ≤ sizeLine → Q (.lst (xs.map f)) m) : dLc ti gd dYes te vs tau m Q Ex := hti _ fun keep hk hl => lc_map f hk hx hl (hq hl)
theorem dlc_filter {ti : TDI} {m : Mu} {Q : DQ} {Ex : DX} (xs : List D) (c : D → Bool) (f : D → D) (hti : Walks ti tau m Ex xs) (hx : ∀ x ∈ xs, ∀ (m' : Mu) (K1 : DQ) (K2 : Mu → Prop), (c x = true → K1 (f x) m') → (c x = false → K2 m') →
      gd x (wipeD tau vs) m' (fun tau2 m2 => tt tau2 m2 (fun b m3 => if b = true then te tau2 m3 K1 NX else K2 m3) NX) NX)
    (hq : xs.length ≤ sizeLine → Q (.lst ((xs.filter c).map f)) m) : dLc ti gd tt te vs tau m Q Ex := hti _ fun keep hk hl => lc_filter c f hk hx hl (hq hl)
theorem dlcM_map {ti : TDI} {m : Mu} {Q : DQ} {Ex : DX} (xs : List D) (f : D → D) (hti : Walks ti tau m Ex xs) (hx : ∀ x ∈ xs, ∀ (m' : Mu) (Qe : DQ), Qe (f x) m' → gd x (wipeD tau vs) m' (fun tau2 m2 => te tau2 m2 Qe NX) NX)
    (hq : xs.length ≤ sizeLine → ∀ p, m p = none → Q (.ref p) (updM m p (.lst (xs.map f)))) : dLcM ti gd dYes te vs tau m Q Ex := hti _ fun keep hk hl p n => lcM_map f hk hx hl (hq hl p n)
theorem walks_list {t : TD} {m : Mu} {Ex : DX} {xs : List D} (h : ∀ Q : DQ, Q (.lst xs) m → t tau m Q Ex) : Walks (diL t) tau m Ex xs := fun QQ k => h _ ⟨xs, rfl, fun hl => k _ (fun _ => rfl) hl⟩
theorem walks_scr {t : TD} {m : Mu} {Ex : DX} {xs : List D} (h : ∀ Q : DQ, Q (.scr xs) m → t tau m Q Ex) : Walks (diL t) tau m Ex xs := fun QQ k => h _ ⟨xs, rfl, fun hl => k _ (fun _ => rfl) hl⟩
theorem walks_tup {t : TD} {m : Mu} {Ex : DX} {xs : List D} (h : ∀ Q : DQ, Q (.tup xs) m → t tau m Q Ex) : Walks (diT t) tau m Ex xs := fun QQ k => h _ ⟨xs, rfl, fun hl => k _ (fun _ => trivial) hl⟩
theorem zipD_length (xs ys : List D) : (zipD xs ys).length = min xs.length ys.length := by simp [zipD]
theorem walks_zip {t : TDA} {m : Mu} {Ex : DX} {xs ys : List D} (h : ∀ Q : List D → Mu → Prop, Q [.lst xs, .lst ys] m → t tau m Q Ex) : Walks (diZ t) tau m Ex (zipD xs ys) := fun QQ k =>
  h _ ⟨.lst xs, .lst ys, xs, ys, rfl, rfl, rfl, fun h1 _ => k _ (fun _ => ⟨rfl, rfl⟩) (by rw [zipD_length]; omega)⟩
theorem walks_enum {t : TDA} {m : Mu} {Ex : DX} {xs : List D} (h : ∀ Q : List D → Mu → Prop, Q [.lst xs] m → t tau m Q Ex) : Walks (diEn t) tau m Ex (enumD 0 xs) := fun QQ k =>
  h _ ⟨.lst xs, xs, rfl, rfl, fun h1 => k _ (fun _ => rfl) (by rw [enumD_length]; exact h1)⟩
theorem walks_range {t : TDA} {m : Mu} {Ex : DX} {j : Int} (hj : -(2 ^ 62) ≤ j) (hj2 : j ≤ 16777216) (h : ∀ Q : List D → Mu → Prop, Q [.int j] m → t tau m Q Ex) : Walks (diR1 t) tau m Ex (rangeD 0 j.toNat) := fun QQ k =>
  h _ ⟨j, rfl, hj, by omega, k _ (fun _ => trivial) (by unfold rangeD; rw [List.length_map, List.length_range, sizeLine_eq]; omega)⟩
theorem walks_str {t : TD} {m : Mu} {Ex : DX} {z : Str} (hz : z.length ≤ sizeLine) (h : ∀ Q : DQ, Q (.str z) m → t tau m Q Ex) : Walks (diS t) tau m Ex (charsD z) := fun QQ k =>
  h _ ⟨z, rfl, k _ (fun _ => trivial) (by unfold charsD; rw [List.length_map]; exact hz)⟩
end
/-! readings of calls by their answers -/
theorem all_map {xs : List D} {f : D → Bool} {m : Mu} {Q : DQ} (h : Q (.bl (xs.all f)) m) : rdAll [.lst (xs.map fun x => .bl (f x))] m Q :=
  ⟨_, xs.map f, rfl, by show some _ = some _; rw [List.map_map]; rfl, by rw [List.all_map]; exact h⟩
theorem mem_zip_ints {ns ms : List Int} {x : D} (h : x ∈ zipD (ns.map D.int) (ms.map D.int)) : ∃ a b, x = .tup [.int a, .int b] := by
  obtain ⟨i, hi⟩ := List.mem_iff_getElem?.mp h
  simp only [zipD, List.getElem?_zipWith, List.getElem?_map] at hi
  cases e1 : ns[i]? <;> cases e2 : ms[i]? <;> simp [e1, e2] at hi
  exact ⟨_, _, hi.symm⟩
/-! small facts for the stepping -/
theorem lsD_updM {m : Mu} {p : Addr} {ds : List D} : lsD (updM m p (.lst ds)) (.ref p) = some ds := lsD_ref updM_same
theorem at0 {α : Type} {x : α} {r : List α} : atI (x :: r) 0 = some x := atI_nat (j := 0) rfl
theorem at1 {α : Type} {x y : α} {r : List α} : atI (x :: y :: r) 1 = some y := atI_nat (j := 1) rfl
theorem at2 {α : Type} {x y z : α} {r : List α} : atI (x :: y :: z :: r) 2 = some z := atI_nat (j := 2) rfl
theorem ix30 : ixN 3 0 = some 0 := by decide
theorem ix31 : ixN 3 1 = some 1 := by decide
theorem ix32 : ixN 3 2 = some 2 := by decide
theorem cpow {i j : Int} (h0 : 0 ≤ i) (h : i < 10 ^ 300) (hj : 0 ≤ j) (hj2 : j ≤ 1000) : CPowD i j := ⟨hj, hj2, by
  have : (10 : Int) ^ 300 < 2 ^ 4000 := by decide +kernel
  omega⟩
theorem cdiv {j : Int} (h0 : 0 < j) (h : j < 2 ^ 300) : CDivD j := ⟨h0, by
  have : (2 : Int) ^ 300 < 2 ^ 4000 := by decide +kernel
  omega⟩
theorem cmulL {i j : Int} (h0 : -(2 ^ 64) < i) (h : i < 2 ^ 64) : CMulD i j := .inl ⟨h0, h⟩
theorem cmulR {i j : Int} (h0 : -(2 ^ 64) < j) (h : j < 2 ^ 64) : CMulD i j := .inr (.inl ⟨h0, h⟩)
/-! lists -/
theorem cutD_from {α : Type} (xs : List α) (k : Nat) : cutD xs (some (k : Int)) none = xs.drop k := by
  unfold cutD
  rw [HT.sIx_nat, HT.sIx_none]
  by_cases h : k ≤ xs.length
  · rw [Nat.min_eq_left h, ← List.length_drop, List.take_length]
  · rw [Nat.min_eq_right (by omega), List.drop_eq_nil_of_le (by omega), List.drop_eq_nil_of_le (by omega), List.take_nil]
theorem cutD_to {α : Type} (xs : List α) (k : Nat) : cutD xs none (some (k : Int)) = xs.take k := by
  unfold cutD
  rw [HT.sIx_nat, HT.sIx_none, List.drop_zero, Nat.sub_zero]
  by_cases h : k ≤ xs.length
  · rw [Nat.min_eq_left h]
  · rw [Nat.min_eq_right (by omega), List.take_of_length_le (by omega), List.take_of_length_le (by omega)]
theorem cutD_one {α : Type} (xs : List α) : cutD xs (some 1) none = xs.drop 1 := cutD_from xs 1
end DL
/-! DL10: comprehensions with an invariant; stores that grow. -/
namespace DL
open PySem PySem.Spec PyProof.Rows L2
section
variable {gd : TDG} {tt : TDT} {te : TD} {vs : List Nat} {tau : DEnv} {keep : Mu → Prop} {p : Addr}
/-- one turn of a comprehension; G: what the turns left need -/
def CTurn (gd : TDG) (tt : TDT) (te : TD) (vs : List Nat) (tau : DEnv) (p : Addr) (x : D) (acc : List D) (m : Mu) (G : List D → Mu → Prop) : Prop :=
  gd x (wipeD tau vs) m (fun tau2 m2 => tt tau2 m2 (fun b m3 => if b = true then te tau2 m3 (fun y m4 => m4 p = some (.lst acc) ∧ acc.length < sizeLine ∧ G (acc ++ [y]) (updM m4 p (.lst (acc ++ [y])))) NX else G acc m3) NX) NX
theorem go_inv (Inv : List D → List D → Mu → Prop) (hk : ∀ xs acc m, Inv xs acc m → keep m) (hp : ∀ xs acc m, Inv xs acc m → m p = some (.lst acc)) (hs : ∀ x xs acc m G, Inv (x :: xs) acc m → (∀ acc' m', Inv xs acc' m' → G acc' m') → CTurn gd tt te vs tau p x acc m G)
    {Q : List D → Mu → Prop} : ∀ (xs acc : List D) (m : Mu), Inv xs acc m → (∀ acc' m', Inv [] acc' m' → Q acc' m') → dLcGo gd tt te vs tau keep p xs acc m Q
  | [], acc, m, i, q => ⟨hk _ _ _ i, hp _ _ _ i, q _ _ i⟩
  | x :: xs, acc, m, i, q => ⟨hk _ _ _ i, hs x xs acc m _ i fun acc' m' i' => go_inv Inv hk hp hs xs acc' m' i' q⟩
/-- what is walked, while the store keeps it -/
def WalksK (ti : TDI) (tau : DEnv) (m : Mu) (Ex : DX) (xs : List D) (ok : Mu → Prop) : Prop := ∀ QQ : List D → (Mu → Prop) → Mu → Prop, (∀ keep : Mu → Prop, (∀ m', ok m' → keep m') → xs.length ≤ sizeLine → QQ xs keep m) → ti tau m QQ Ex
theorem Walks.k {ti : TDI} {m : Mu} {Ex : DX} {xs : List D} {ok : Mu → Prop} (h : Walks ti tau m Ex xs) : WalksK ti tau m Ex xs ok := fun QQ k => h QQ fun keep hk hl => k keep (fun m' _ => hk m') hl
theorem walksK_list {t : TD} {m : Mu} {Ex : DX} {xs : List D} {d : D} (e : lsD m d = some xs) (h : ∀ Q : DQ, Q d m → t tau m Q Ex) : WalksK (diL t) tau m Ex xs (fun m' => lsD m' d = some xs) := fun QQ k => h _ ⟨xs, e, fun hl => k _ (fun _ h => h) hl⟩
theorem walksK_enum {t : TDA} {m : Mu} {Ex : DX} {xs : List D} {d : D} (e : lsD m d = some xs) (h : ∀ Q : List D → Mu → Prop, Q [d] m → t tau m Q Ex) : WalksK (diEn t) tau m Ex (enumD 0 xs) (fun m' => lsD m' d = some xs) := fun QQ k =>
  h _ ⟨d, xs, rfl, e, fun hl => k _ (fun _ h => h) (by rw [enumD_length]; exact hl)⟩
theorem walksK_zip {t : TDA} {m : Mu} {Ex : DX} {xs ys : List D} {d d2 : D} (e : lsD m d = some xs) (e2 : lsD m d2 = some ys) (h : ∀ Q : List D → Mu → Prop, Q [d, d2] m → t tau m Q Ex) : WalksK (diZ t) tau m Ex (zipD xs ys) (fun m' => lsD m' d = some xs ∧ lsD m' d2 = some ys) := fun QQ k =>
  h _ ⟨d, d2, xs, ys, rfl, e, e2, fun h1 _ => k _ (fun _ h => h) (by rw [zipD_length]; omega)⟩
theorem dlcM_inv {ti : TDI} {m : Mu} {Q : DQ} {Ex : DX} {ok : Mu → Prop} (xs : List D) (Inv : Addr → List D → List D → Mu → Prop) (hti : WalksK ti tau m Ex xs ok) (h0 : xs.length ≤ sizeLine → ∀ p, m p = none → Inv p xs [] (updM m p (.lst [])))
    (hk : ∀ p xs acc m, Inv p xs acc m → ok m) (hp : ∀ p xs acc m, Inv p xs acc m → m p = some (.lst acc)) (hs : ∀ p x xs acc m G, Inv p (x :: xs) acc m → (∀ acc' m', Inv p xs acc' m' → G acc' m') → CTurn gd tt te vs tau p x acc m G)
    (hq : ∀ p acc m', m p = none → Inv p [] acc m' → Q (.ref p) m') : dLcM ti gd tt te vs tau m Q Ex := hti _ fun keep hk' hl p n =>
  go_inv (Inv p) (fun _ _ _ i => hk' _ (hk _ _ _ _ i)) (hp p) (hs p) _ _ _ (h0 hl p n) fun acc' m' i => hq p acc' m' n i
theorem dlc_inv {ti : TDI} {m : Mu} {Q : DQ} {Ex : DX} {ok : Mu → Prop} (xs : List D) (Inv : Addr → List D → List D → Mu → Prop) (hti : WalksK ti tau m Ex xs ok) (h0 : xs.length ≤ sizeLine → ∀ p, m p = none → Inv p xs [] (updM m p (.lst [])))
    (hk : ∀ p xs acc m, Inv p xs acc m → ok m) (hp : ∀ p xs acc m, Inv p xs acc m → m p = some (.lst acc)) (hs : ∀ p x xs acc m G, Inv p (x :: xs) acc m → (∀ acc' m', Inv p xs acc' m' → G acc' m') → CTurn gd tt te vs tau p x acc m G)
    (hq : ∀ p acc m', m p = none → Inv p [] acc m' → Q (.lst acc) (delM m' p)) : dLc ti gd tt te vs tau m Q Ex := hti _ fun keep hk' hl p n =>
  go_inv (Inv p) (fun _ _ _ i => hk' _ (hk _ _ _ _ i)) (hp p) (hs p) _ _ _ (h0 hl p n) fun acc' m' i => hq p acc' m' n i
/-- a for loop with an invariant -/
theorem dfor_inv {ti : TDI} {tb : TDS} {m : Mu} {E : DEnds} {ok : Mu → Prop} (xs : List D) (Pv : Nat → DEnv → Mu → Prop) (hti : WalksK ti tau m E.ex xs ok) (h0 : xs.length ≤ sizeLine → Pv 0 tau m) (hk : ∀ i tau m, Pv i tau m → ok m)
    (hs : ∀ i x tau m, xs[i]? = some x → Pv i tau m → gd x tau m (fun tau2 m2 => tb { E with nx := Pv (i + 1), ct := Pv (i + 1), bk := E.nx } tau2 m2) NX) (hq : ∀ tau m, Pv xs.length tau m → E.nx tau m) : dFor ti gd tb E tau m :=
  hti _ fun keep hk' hl => ⟨Pv, h0 hl, fun i tau m _ h => hk' _ (hk i tau m h), hs, hq⟩
end
/-- what stood in the store stands -/
def Old (m m' : Mu) : Prop := ∀ b o, m b = some o → m' b = some o
theorem Old.refl {m : Mu} : Old m m := fun _ _ h => h
theorem Old.trans {m m1 m2 : Mu} (a : Old m m1) (b : Old m1 m2) : Old m m2 := fun c o h => b c o (a c o h)
theorem Old.new {m m' : Mu} {p : Addr} {o : MO} (a : Old m m') (n : m p = none) : Old m (updM m' p o) := fun b o h => by
  have : b ≠ p := fun e => by rw [e, n] at h; cases h
  rw [updM_ne this]; exact a b o h
theorem updM_none {m : Mu} {p q : Addr} {o : MO} (h : updM m p o q = none) : q ≠ p ∧ m q = none := by
  by_cases z : q = p
  · rw [z, updM_same] at h; cases h
  · rw [updM_ne z] at h; exact ⟨z, h⟩
theorem Old.ls {m m' : Mu} (a : Old m m') {d : D} {ds : List D} (h : lsD m d = some ds) : lsD m' d = some ds := by
  cases d <;> first | exact h | skip
  rename_i p
  cases e : m p with
  | none => simp only [lsD, e] at h; cases h
  | some o => simp only [lsD, e, a p o e] at h ⊢; exact h
theorem Old.fresh {m m' : Mu} {p : Addr} (a : Old m m') (n : m' p = none) : m p = none := by
  cases e : m p with
  | none => rfl
  | some o => rw [a p o e] at n; cases n
theorem range_get {lo : Int} {n i : Nat} {x : D} (h : (rangeD lo n)[i]? = some x) : x = .int (lo + i) ∧ i < n := by
  unfold rangeD at h
  rw [List.getElem?_map] at h
  by_cases hi : i < n
  · rw [List.getElem?_range hi] at h
    cases h
    exact ⟨rfl, hi⟩
  · rw [List.getElem?_eq_none (by rw [List.length_range]; omega)] at h
    cases h
theorem range_len {lo : Int} {n : Nat} : (rangeD lo n).length = n := by unfold rangeD; rw [List.length_map, List.length_range]
theorem ixN_nat {n j : Nat} (h : j < n) : ixN n (j : Int) = some j := by
  unfold ixN
  rw [if_pos (by omega : (0 : Int) ≤ j), if_pos (by omega : (j : Int) < n)]
  rfl
theorem pvs_ints {m : Mu} : ∀ ns : List Int, PVs m (ns.map D.int) (ns.map PyData.int)
  | [] => .nil
  | n :: r => .cons (.int n) (pvs_ints r)
theorem canLay_ints : ∀ ns : List Int, PyData.canLayAll0 (ns.map PyData.int) = true
  | [] => by simp [PyData.canLayAll0]
  | n :: r => by rw [List.map_cons, PyData.canLayAll0, canLay_ints r]; simp [PyData.canLay0]
theorem depth_ints : ∀ ns : List Int, PyData.depthAll (ns.map PyData.int) ≤ 1
  | [] => by simp [PyData.depthAll]
  | n :: r => by
    have := depth_ints r
    rw [List.map_cons, PyData.depthAll]
    simp [PyData.depth]; omega
theorem shaped_ints (ns : List Int) : SeqAt.shaped (.list (ns.map PyData.int)) = true := by
  have := depth_ints ns
  have h : 1 + PyData.depthAll (ns.map PyData.int) ≤ 64 := by omega
  simp [SeqAt.shaped, PyData.canLay0, canLay_ints, PyData.depth]
  omega
theorem any_ints {x : Int} : ∀ {ns : List Int}, ((ns.map PyData.int).any fun z => PyData.eqv z (.int x)) = decide (x ∈ ns)
  | [] => by simp
  | n :: r => by
    rw [List.map_cons, List.any_cons, any_ints (ns := r)]
    by_cases h : n = x
    · subst h; simp [PyData.eqv]
    · have h2 : ¬ x = n := fun e => h e.symm
      simp [PyData.eqv, h, h2]
/-- x in a list of ints -/
theorem inL_ints {neg : Bool} {m : Mu} {Q : DQ} {e : D} {x : Int} {ns : List Int} (h : lsD m e = some (ns.map D.int)) (q : Q (.bl (if neg then !decide (x ∈ ns) else decide (x ∈ ns))) m) : rdInL neg (.int x) e m Q :=
  .inl ⟨_, _, _, h, .int x, pvs_ints ns, by simp [SeqAt.shaped, PyData.canLay0, PyData.depth], shaped_ints ns, by rw [any_ints]; exact q⟩
/-- two lists of ints -/
theorem eqv_ints : ∀ {ns ks : List Int}, PyData.eqvAll (ns.map PyData.int) (ks.map PyData.int) = decide (ns = ks)
  | [], [] => by simp [PyData.eqvAll]
  | n :: r, [] => by simp [PyData.eqvAll]
  | [], n :: r => by simp [PyData.eqvAll]
  | n :: r, k :: t => by
    rw [List.map_cons, List.map_cons, PyData.eqvAll, eqv_ints (ns := r) (ks := t)]
    by_cases h : n = k
    · subst h; simp [PyData.eqv]
    · simp [PyData.eqv, h]
theorem eq_ints {neg : Bool} {m : Mu} {Q : DQ} {d e : D} {ns ks : List Int} (h1 : PV m d (.list (ns.map PyData.int))) (h2 : PV m e (.list (ks.map PyData.int))) (q : Q (.bl (if neg then !decide (ns = ks) else decide (ns = ks))) m) : rdEq neg d e m Q :=
  .inl ⟨_, _, h1, h2, shaped_ints ns, shaped_ints ks, by rw [PyData.eqv, eqv_ints]; exact q⟩
theorem eq_int {neg : Bool} {m : Mu} {Q : DQ} {a b : Int} (q : Q (.bl (if neg then !decide (a = b) else decide (a = b))) m) : rdEq neg (.int a) (.int b) m Q :=
  .inl ⟨_, _, .int a, .int b, by simp [SeqAt.shaped, PyData.canLay0, PyData.depth], by simp [SeqAt.shaped, PyData.canLay0, PyData.depth], by
    have : PyData.eqv (.int a) (.int b) = decide (a = b) := by
      by_cases h : a = b
      · subst h; simp [PyData.eqv]
      · simp [PyData.eqv, h]
    rw [this]; exact q⟩
theorem pv_ints {m : Mu} {d : D} {ns : List Int} (h : lsD m d = some (ns.map D.int)) : PV m d (.list (ns.map PyData.int)) := by
  cases d <;> first | (cases h; done) | skip
  · rename_i p
    cases e : m p with
    | none => simp only [lsD, e] at h; cases h
    | some o =>
      cases o <;> simp only [lsD, e] at h <;> cases h
      exact .ref e (pvs_ints ns)
  · cases h; exact .lst (pvs_ints ns)
  · cases h; exact .scr (pvs_ints ns)
theorem eq_int_iff {neg : Bool} {m : Mu} {Q : DQ} {a b : Int} : rdEq neg (.int a) (.int b) m Q ↔ Q (.bl (if neg = true then !decide (a = b) else decide (a = b))) m := by
  refine ⟨fun h => ?_, eq_int⟩
  rcases h with ⟨p, q, h1, h2, _, _, h⟩ | ⟨_, _, e, _⟩
  rotate_left
  · cases e
  cases h1; cases h2
  have : PyData.eqv (.int a) (.int b) = decide (a = b) := by
    by_cases h : a = b
    · subst h; simp [PyData.eqv]
    · simp [PyData.eqv, h]
  rw [this] at h; exact h
theorem eq_bl_iff {neg : Bool} {m : Mu} {Q : DQ} {a b : Bool} : rdEq neg (.bl a) (.bl b) m Q ↔ Q (.bl (if neg = true then !decide (a = b) else decide (a = b))) m := by
  have : PyData.eqv (.bool a) (.bool b) = decide (a = b) := by cases a <;> cases b <;> simp [PyData.eqv]
  refine ⟨fun h => ?_, fun h => .inl ⟨_, _, .bl a, .bl b, by simp [SeqAt.shaped, PyData.canLay0, PyData.depth], by simp [SeqAt.shaped, PyData.canLay0, PyData.depth], by rw [this]; exact h⟩⟩
  rcases h with ⟨p, q, h1, h2, _, _, h⟩ | ⟨_, _, e, _⟩
  rotate_left
  · cases e
  cases h1; cases h2
  rw [this] at h; exact h
theorem eq_str_iff {neg : Bool} {m : Mu} {Q : DQ} {a b : Str} : rdEq neg (.str a) (.str b) m Q ↔ Q (.bl (if neg = true then !decide (a = b) else decide (a = b))) m := by
  refine ⟨fun h => ?_, fun h => .inr ⟨a, b, rfl, rfl, h⟩⟩
  rcases h with ⟨p, q, h1, h2, _, _, h⟩ | ⟨_, _, e, e', h⟩
  · cases h1; cases h2
    have : PyData.eqv (.str a) (.str b) = decide (a = b) := by
      by_cases z : a = b
      · subst z; simp [PyData.eqv]
      · simp [PyData.eqv, z]
    rw [this] at h; exact h
  · cases e; cases e'; exact h
end DL
/-! DL11: the readings step by step; what is left to read stays folded. -/
namespace DL
open PySem PySem.Spec PyProof.Rows L2
section
variable {tau : DEnv} {m m1 : Mu} {Q : DQ} {Ex : DX} {d e : D} {ds es : List D} {b : Bool} {D0 : DEnds}
/-! expressions -/
theorem st_var {i : Nat} : dVar i tau m Q Ex = ∃ d, tau[i]? = some (some d) ∧ Q d m := rfl
theorem st_c : dC d tau m Q Ex = Q d m := rfl
def kOp2 (rd : RD2) (d : D) (Q : DQ) : DQ := fun e m2 => rd d e m2 Q
def kOp1 (rd : RD2) (tb : TD) (tau : DEnv) (Q : DQ) (Ex : DX) : DQ := fun d m1 => tb tau m1 (kOp2 rd d Q) Ex
theorem st_op {rd : RD2} {ta tb : TD} : dOp rd ta tb tau m Q Ex = ta tau m (kOp1 rd tb tau Q Ex) Ex := rfl
theorem st_op1 {rd : RD2} {tb : TD} : kOp1 rd tb tau Q Ex d m1 = tb tau m1 (kOp2 rd d Q) Ex := rfl
theorem st_op2 {rd : RD2} : kOp2 rd d Q e m1 = rd d e m1 Q := rfl
def kB (Q : Bool → Mu → Prop) : DQ := fun d m1 => ∃ b, d = .bl b ∧ Q b m1
theorem st_b {t : TD} {Q : Bool → Mu → Prop} : dB t tau m Q Ex = t tau m (kB Q) Ex := rfl
theorem st_b1 {Q : Bool → Mu → Prop} : kB Q (.bl b) m1 = Q b m1 := propext ⟨fun ⟨_, e, h⟩ => by cases e; exact h, fun h => ⟨b, rfl, h⟩⟩
def kAnd (u : TDT) (tau : DEnv) (Q : Bool → Mu → Prop) (Ex : DX) : Bool → Mu → Prop := fun b m1 => if b = true then u tau m1 Q Ex else Q false m1
theorem st_and {t u : TDT} {Q : Bool → Mu → Prop} : dAnd t u tau m Q Ex = t tau m (kAnd u tau Q Ex) Ex := rfl
theorem st_andT {u : TDT} {Q : Bool → Mu → Prop} : kAnd u tau Q Ex true m1 = u tau m1 Q Ex := if_pos rfl
theorem st_andF {u : TDT} {Q : Bool → Mu → Prop} : kAnd u tau Q Ex false m1 = Q false m1 := if_neg Bool.false_ne_true
def kOr (u : TDT) (tau : DEnv) (Q : Bool → Mu → Prop) (Ex : DX) : Bool → Mu → Prop := fun b m1 => if b = true then Q true m1 else u tau m1 Q Ex
theorem st_or {t u : TDT} {Q : Bool → Mu → Prop} : dOr t u tau m Q Ex = t tau m (kOr u tau Q Ex) Ex := rfl
theorem st_orT {u : TDT} {Q : Bool → Mu → Prop} : kOr u tau Q Ex true m1 = Q true m1 := if_pos rfl
theorem st_orF {u : TDT} {Q : Bool → Mu → Prop} : kOr u tau Q Ex false m1 = u tau m1 Q Ex := if_neg Bool.false_ne_true
def kNot (Q : Bool → Mu → Prop) : Bool → Mu → Prop := fun b m1 => Q (!b) m1
theorem st_not {t : TDT} {Q : Bool → Mu → Prop} : dNot t tau m Q Ex = t tau m (kNot Q) Ex := rfl
theorem st_not1 {Q : Bool → Mu → Prop} : kNot Q b m1 = Q (!b) m1 := rfl
/-- what follows a truth value -/
def kBr (p q : Mu → Prop) : Bool → Mu → Prop := fun b m1 => if b = true then p m1 else q m1
def kAndV (u : TD) (tau : DEnv) (Q : DQ) (Ex : DX) : DQ := fun d m1 => ∃ b, d = .bl b ∧ if b = true then u tau m1 Q Ex else Q (.bl false) m1
theorem st_andV {t u : TD} : dAndV t u tau m Q Ex = t tau m (kAndV u tau Q Ex) Ex := rfl
def jAndV (u : TD) (tau : DEnv) (Q : DQ) (Ex : DX) (b : Bool) (m1 : Mu) : Prop := if b = true then u tau m1 Q Ex else Q (.bl false) m1
theorem st_andV1 {u : TD} : kAndV u tau Q Ex (.bl b) m1 = jAndV u tau Q Ex b m1 := propext ⟨fun ⟨_, e, h⟩ => by cases e; exact h, fun h => ⟨b, rfl, h⟩⟩
theorem st_andVT {u : TD} : jAndV u tau Q Ex true m1 = u tau m1 Q Ex := if_pos rfl
theorem st_andVF {u : TD} : jAndV u tau Q Ex false m1 = Q (.bl false) m1 := if_neg Bool.false_ne_true
def kOrV (u : TD) (tau : DEnv) (Q : DQ) (Ex : DX) : DQ := fun d m1 => ∃ b, d = .bl b ∧ if b = true then Q (.bl true) m1 else u tau m1 Q Ex
theorem st_orV {t u : TD} : dOrV t u tau m Q Ex = t tau m (kOrV u tau Q Ex) Ex := rfl
def jOrV (u : TD) (tau : DEnv) (Q : DQ) (Ex : DX) (b : Bool) (m1 : Mu) : Prop := if b = true then Q (.bl true) m1 else u tau m1 Q Ex
theorem st_orV1 {u : TD} : kOrV u tau Q Ex (.bl b) m1 = jOrV u tau Q Ex b m1 := propext ⟨fun ⟨_, e, h⟩ => by cases e; exact h, fun h => ⟨b, rfl, h⟩⟩
theorem st_orVT {u : TD} : jOrV u tau Q Ex true m1 = Q (.bl true) m1 := if_pos rfl
theorem st_orVF {u : TD} : jOrV u tau Q Ex false m1 = u tau m1 Q Ex := if_neg Bool.false_ne_true
def kNotV (Q : DQ) : DQ := fun d m1 => ∃ b, d = .bl b ∧ Q (.bl (!b)) m1
theorem st_notV {t : TD} : dNotV t tau m Q Ex = t tau m (kNotV Q) Ex := rfl
theorem st_notV1 : kNotV Q (.bl b) m1 = Q (.bl (!b)) m1 := propext ⟨fun ⟨_, e, h⟩ => by cases e; exact h, fun h => ⟨b, rfl, h⟩⟩
def kIfE (t u : TD) (tau : DEnv) (Q : DQ) (Ex : DX) : Bool → Mu → Prop := fun b m1 => if b = true then t tau m1 Q Ex else u tau m1 Q Ex
theorem st_ifE {c : TDT} {t u : TD} : dIf c t u tau m Q Ex = c tau m (kIfE t u tau Q Ex) Ex := rfl
theorem st_ifET {t u : TD} : kIfE t u tau Q Ex true m1 = t tau m1 Q Ex := if_pos rfl
theorem st_ifEF {t u : TD} : kIfE t u tau Q Ex false m1 = u tau m1 Q Ex := if_neg Bool.false_ne_true
theorem st_nil {Q : List D → Mu → Prop} : dNil tau m Q Ex = Q [] m := rfl
def kCons2 (d : D) (Q : List D → Mu → Prop) : List D → Mu → Prop := fun ds m2 => Q (d :: ds) m2
def kCons (u : TDA) (tau : DEnv) (Q : List D → Mu → Prop) (Ex : DX) : DQ := fun d m1 => u tau m1 (kCons2 d Q) Ex
theorem st_cons {t : TD} {u : TDA} {Q : List D → Mu → Prop} : dCons t u tau m Q Ex = t tau m (kCons u tau Q Ex) Ex := rfl
theorem st_cons1 {u : TDA} {Q : List D → Mu → Prop} : kCons u tau Q Ex d m1 = u tau m1 (kCons2 d Q) Ex := rfl
theorem st_cons2 {Q : List D → Mu → Prop} : kCons2 d Q ds m1 = Q (d :: ds) m1 := rfl
theorem short_le {ds : List D} (h : ds.length ≤ 1000000 := by decide) : ds.length ≤ sizeLine := by rw [sizeLine_eq]; omega
def kTup (Q : DQ) : List D → Mu → Prop := fun ds m1 => ds.length ≤ sizeLine ∧ Q (.tup ds) m1
theorem st_tup {t : TDA} : dTup t tau m Q Ex = t tau m (kTup Q) Ex := rfl
theorem st_tup1 : kTup Q ds m1 = (ds.length ≤ sizeLine ∧ Q (.tup ds) m1) := rfl
def kLst (Q : DQ) : List D → Mu → Prop := fun ds m1 => ds.length ≤ sizeLine ∧ Q (.lst ds) m1
theorem st_lst {t : TDA} : dLst t tau m Q Ex = t tau m (kLst Q) Ex := rfl
theorem st_lst1 : kLst Q ds m1 = (ds.length ≤ sizeLine ∧ Q (.lst ds) m1) := rfl
/-- a new object -/
def new (m : Mu) (o : MO) (Q : DQ) : Prop := ∀ p, m p = none → Q (.ref p) (updM m p o)
def kLstM (Q : DQ) : List D → Mu → Prop := fun ds m1 => ds.length ≤ sizeLine ∧ ∀ p, m1 p = none → Q (.ref p) (updM m1 p (.lst ds))
theorem st_lstM {t : TDA} : dLstM t tau m Q Ex = t tau m (kLstM Q) Ex := rfl
theorem st_lstM1 : kLstM Q ds m1 = (ds.length ≤ sizeLine ∧ new m1 (.lst ds) Q) := rfl
theorem st_mkT : mkL true ds m Q = new m (.lst ds) Q := rfl
theorem st_mkF : mkL false ds m Q = Q (.lst ds) m := rfl
theorem st_dnew : dDNew tau m Q Ex = new m (.dic []) Q := rfl
theorem st_dnewF : dDNewF tau m Q Ex = Q (.dic []) m := rfl
def kCB (rd : RDC) (Q : DQ) : List D → Mu → Prop := fun ds m1 => rd ds m1 Q
theorem st_cb {rd : RDC} {t : TDA} : dCB rd t tau m Q Ex = t tau m (kCB rd Q) Ex := rfl
theorem st_cb1 {rd : RDC} : kCB rd Q ds m1 = rd ds m1 Q := rfl
def kBM2 (rd : RDM) (d : D) (Q : DQ) : List D → Mu → Prop := fun ds m2 => rd d ds m2 Q
def kBM (ty : D → Mu → Prop) (rd : RDM) (t : TDA) (tau : DEnv) (Q : DQ) (Ex : DX) : DQ := fun d m1 => ty d m1 ∧ t tau m1 (kBM2 rd d Q) Ex
theorem st_bm {ty : D → Mu → Prop} {rd : RDM} {to : TD} {t : TDA} : dBM ty rd to t tau m Q Ex = to tau m (kBM ty rd t tau Q Ex) Ex := rfl
theorem st_bm1 {ty : D → Mu → Prop} {rd : RDM} {t : TDA} : kBM ty rd t tau Q Ex d m1 = (ty d m1 ∧ t tau m1 (kBM2 rd d Q) Ex) := rfl
theorem st_bm2 {rd : RDM} : kBM2 rd d Q ds m1 = rd d ds m1 Q := rfl
def kBM0 (ty : D → Mu → Prop) (rd : RDM) (Q : DQ) : DQ := fun d m1 => ty d m1 ∧ rd d [] m1 Q
theorem st_bm0 {ty : D → Mu → Prop} {rd : RDM} {to : TD} : dBM0 ty rd to tau m Q Ex = to tau m (kBM0 ty rd Q) Ex := rfl
theorem st_bm01 {ty : D → Mu → Prop} {rd : RDM} : kBM0 ty rd Q d m1 = (ty d m1 ∧ rd d [] m1 Q) := rfl
def kCh3 (rd' : RD2) (e : D) (Q : DQ) : DQ := fun f m4 => rd' e f m4 Q
def kCh2 (rd' : RD2) (tc : TD) (tau : DEnv) (Q : DQ) (Ex : DX) (e : D) : DQ := fun z m3 => ∃ k, z = .bl k ∧ if k = true then tc tau m3 (kCh3 rd' e Q) Ex else Q (.bl false) m3
def kCh1 (rd rd' : RD2) (tc : TD) (tau : DEnv) (Q : DQ) (Ex : DX) (d : D) : DQ := fun e m2 => rd d e m2 (kCh2 rd' tc tau Q Ex e)
def kCh (rd rd' : RD2) (tb tc : TD) (tau : DEnv) (Q : DQ) (Ex : DX) : DQ := fun d m1 => tb tau m1 (kCh1 rd rd' tc tau Q Ex d) Ex
theorem st_ch {rd rd' : RD2} {ta tb tc : TD} : dChain rd rd' ta tb tc tau m Q Ex = ta tau m (kCh rd rd' tb tc tau Q Ex) Ex := rfl
theorem st_ch0 {rd rd' : RD2} {tb tc : TD} : kCh rd rd' tb tc tau Q Ex d m1 = tb tau m1 (kCh1 rd rd' tc tau Q Ex d) Ex := rfl
theorem st_ch1 {rd rd' : RD2} {tc : TD} : kCh1 rd rd' tc tau Q Ex d e m1 = rd d e m1 (kCh2 rd' tc tau Q Ex e) := rfl
def jCh (rd' : RD2) (tc : TD) (tau : DEnv) (Q : DQ) (Ex : DX) (e : D) (k : Bool) (m3 : Mu) : Prop := if k = true then tc tau m3 (kCh3 rd' e Q) Ex else Q (.bl false) m3
theorem st_ch2 {rd' : RD2} {tc : TD} : kCh2 rd' tc tau Q Ex e (.bl b) m1 = jCh rd' tc tau Q Ex e b m1 := propext ⟨fun ⟨_, e, h⟩ => by cases e; exact h, fun h => ⟨b, rfl, h⟩⟩
theorem st_chT {rd' : RD2} {tc : TD} : jCh rd' tc tau Q Ex e true m1 = tc tau m1 (kCh3 rd' e Q) Ex := if_pos rfl
theorem st_chF {rd' : RD2} {tc : TD} : jCh rd' tc tau Q Ex e false m1 = Q (.bl false) m1 := if_neg Bool.false_ne_true
theorem st_ch3 {rd' : RD2} : kCh3 rd' e Q d m1 = rd' e d m1 Q := rfl
def kUn (rd : D → Mu → DQ → Prop) (Q : DQ) : DQ := fun d m1 => rd d m1 Q
theorem st_un {rd : D → Mu → DQ → Prop} {t : TD} : dUn rd t tau m Q Ex = t tau m (kUn rd Q) Ex := rfl
theorem st_un1 {rd : D → Mu → DQ → Prop} : kUn rd Q d m1 = rd d m1 Q := rfl
def kSl2 (rd : D → Option Int → Option Int → Mu → DQ → Prop) (d : D) (lo : Option Int) (Q : DQ) : Option Int → Mu → Prop := fun hi m3 => rd d lo hi m3 Q
def kSl1 (rd : D → Option Int → Option Int → Mu → DQ → Prop) (th : TDO) (tau : DEnv) (d : D) (Q : DQ) (Ex : DX) : Option Int → Mu → Prop := fun lo m2 => th tau m2 (kSl2 rd d lo Q) Ex
def kSl (rd : D → Option Int → Option Int → Mu → DQ → Prop) (tl th : TDO) (tau : DEnv) (Q : DQ) (Ex : DX) : DQ := fun d m1 => tl tau m1 (kSl1 rd th tau d Q Ex) Ex
theorem st_sl {rd : D → Option Int → Option Int → Mu → DQ → Prop} {t : TD} {tl th : TDO} : dSl rd t tl th tau m Q Ex = t tau m (kSl rd tl th tau Q Ex) Ex := rfl
theorem st_sl0 {rd : D → Option Int → Option Int → Mu → DQ → Prop} {tl th : TDO} : kSl rd tl th tau Q Ex d m1 = tl tau m1 (kSl1 rd th tau d Q Ex) Ex := rfl
theorem st_sl1 {rd : D → Option Int → Option Int → Mu → DQ → Prop} {th : TDO} {lo : Option Int} : kSl1 rd th tau d Q Ex lo m1 = th tau m1 (kSl2 rd d lo Q) Ex := rfl
theorem st_sl2 {rd : D → Option Int → Option Int → Mu → DQ → Prop} {lo hi : Option Int} : kSl2 rd d lo Q hi m1 = rd d lo hi m1 Q := rfl
theorem st_noPart {Q : Option Int → Mu → Prop} : dNoPart tau m Q Ex = Q none m := rfl
def kPart (Q : Option Int → Mu → Prop) : DQ := fun d m1 => ∃ i, d = .int i ∧ Q (some i) m1
theorem st_part {t : TD} {Q : Option Int → Mu → Prop} : dPart t tau m Q Ex = t tau m (kPart Q) Ex := rfl
theorem st_part1 {Q : Option Int → Mu → Prop} {i : Int} : kPart Q (.int i) m1 = Q (some i) m1 := propext ⟨fun ⟨_, e, h⟩ => by cases e; exact h, fun h => ⟨i, rfl, h⟩⟩
def kCall (sp : DSp) (dds : List D) (Q : DQ) (Ex : DX) : List D → Mu → Prop := fun ds m1 => sp (ds ++ dds) m1 Q Ex
theorem st_call {sp : DSp} {dds : List D} {t : TDA} : dCall sp dds t tau m Q Ex = t tau m (kCall sp dds Q Ex) Ex := rfl
theorem st_call1 {sp : DSp} {dds : List D} : kCall sp dds Q Ex ds m1 = sp (ds ++ dds) m1 Q Ex := rfl
def kLend (sp : DSp) (Q : DQ) : List D → Mu → Prop := fun ds m1 => ∃ es : List D, Vws m1 (fun _ => true) ds es ∧ sp es emp (fun d _ => DL.scal d = true ∧ Q d m1) NX
theorem st_lend {sp : DSp} {t : TDA} : dLend sp t tau m Q Ex = t tau m (kLend sp Q) Ex := rfl
def kRg1 (mk : Bool) (Q : DQ) : DQ := fun d m1 => ∃ n, d = .int n ∧ n ≤ 16777216 ∧ -(2 ^ 62) ≤ n ∧ mkL mk (rangeD 0 n.toNat) m1 Q
theorem st_rg1 {mk : Bool} {t : TD} : dRg1 mk t tau m Q Ex = t tau m (kRg1 mk Q) Ex := rfl
theorem st_rg11 {mk : Bool} {n : Int} : kRg1 mk Q (.int n) m1 = (n ≤ 16777216 ∧ -(2 ^ 62) ≤ n ∧ mkL mk (rangeD 0 n.toNat) m1 Q) := propext ⟨fun ⟨_, e, h⟩ => by cases e; exact h, fun h => ⟨n, rfl, h⟩⟩
def kRg22 (mk : Bool) (Q : DQ) (d : D) : DQ := fun e m2 => ∃ i j, d = .int i ∧ e = .int j ∧ RgOk i j ∧ mkL mk (rangeD i (j - i).toNat) m2 Q
def kRg2 (mk : Bool) (u : TD) (tau : DEnv) (Q : DQ) (Ex : DX) : DQ := fun d m1 => u tau m1 (kRg22 mk Q d) Ex
theorem st_rg2 {mk : Bool} {t u : TD} : dRg2 mk t u tau m Q Ex = t tau m (kRg2 mk u tau Q Ex) Ex := rfl
theorem st_rg21 {mk : Bool} {u : TD} : kRg2 mk u tau Q Ex d m1 = u tau m1 (kRg22 mk Q d) Ex := rfl
theorem st_rg22 {mk : Bool} {i j : Int} : kRg22 mk Q (.int i) (.int j) m1 = (RgOk i j ∧ mkL mk (rangeD i (j - i).toNat) m1 Q) := propext ⟨fun ⟨_, _, e, e', h⟩ => by cases e; cases e'; exact h, fun h => ⟨i, j, rfl, rfl, h⟩⟩
theorem st_yes {Q : Bool → Mu → Prop} : dYes tau m Q Ex = Q true m := rfl
/-! statements -/
theorem st_next : dNext D0 tau m = D0.nx tau m := rfl
theorem st_seq {t u : TDS} : dSeq t u D0 tau m = t { D0 with nx := u D0 } tau m := rfl
theorem st_break : dBreak D0 tau m = D0.bk tau m := rfl
theorem st_cont : dCont D0 tau m = D0.ct tau m := rfl
def kDrop (D0 : DEnds) (tau : DEnv) : DQ := fun _ m1 => D0.nx tau m1
theorem st_drop {t : TD} : dDrop t D0 tau m = t tau m (kDrop D0 tau) D0.ex := rfl
theorem st_drop1 : kDrop D0 tau d m1 = D0.nx tau m1 := rfl
theorem st_ret {t : TD} : dRet t D0 tau m = t tau m D0.rt D0.ex := rfl
theorem st_retN : dRetN D0 tau m = D0.rt .non m := rfl
def kIf (t u : TDS) (D0 : DEnds) (tau : DEnv) : Bool → Mu → Prop := fun b m1 => if b = true then t D0 tau m1 else u D0 tau m1
theorem st_if {c : TDT} {t u : TDS} : dIfS c t u D0 tau m = c tau m (kIf t u D0 tau) D0.ex := rfl
theorem st_ifT {t u : TDS} : kIf t u D0 tau true m1 = t D0 tau m1 := if_pos rfl
theorem st_ifF {t u : TDS} : kIf t u D0 tau false m1 = u D0 tau m1 := if_neg Bool.false_ne_true
def kSet (D0 : DEnds) (tau : DEnv) (i : Nat) : DQ := fun d m1 => D0.nx (tau.set i (some d)) m1
theorem st_set {i : Nat} {t : TD} : dSet i t D0 tau m = t tau m (kSet D0 tau i) D0.ex := rfl
theorem st_set1 {i : Nat} : kSet D0 tau i d m1 = D0.nx (tau.set i (some d)) m1 := rfl
def kAsg (g : TDG) (D0 : DEnds) (tau : DEnv) : DQ := fun d m1 => g d tau m1 D0.nx D0.ex
theorem st_asg {t : TD} {g : TDG} : dAsg t g D0 tau m = t tau m (kAsg g D0 tau) D0.ex := rfl
theorem st_asg1 {g : TDG} : kAsg g D0 tau d m1 = g d tau m1 D0.nx D0.ex := rfl
def kAug2 (i : Nat) (D0 : DEnds) (tau : DEnv) : DQ := fun z m2 => D0.nx (tau.set i (some z)) m2
def kAug (i : Nat) (rd : RD2) (d0 : D) (D0 : DEnds) (tau : DEnv) : DQ := fun e m1 => rd d0 e m1 (kAug2 i D0 tau)
theorem st_aug {i : Nat} {rd : RD2} {t : TD} : dAug i rd t D0 tau m = ∃ d0, tau[i]? = some (some d0) ∧ t tau m (kAug i rd d0 D0 tau) D0.ex := rfl
theorem st_aug1 {i : Nat} {rd : RD2} {d0 : D} : kAug i rd d0 D0 tau e m1 = rd d0 e m1 (kAug2 i D0 tau) := rfl
theorem st_aug2 {i : Nat} : kAug2 i D0 tau d m1 = D0.nx (tau.set i (some d)) m1 := rfl
def kPar (i j : Nat) (D0 : DEnds) (tau : DEnv) : List D → Mu → Prop := fun ds m1 => ∃ d e, ds = [d, e] ∧ D0.nx ((tau.set i (some d)).set j (some e)) m1
theorem st_par {i j : Nat} {t : TDA} : dPar i j t D0 tau m = t tau m (kPar i j D0 tau) D0.ex := rfl
theorem st_par1 {i j : Nat} : kPar i j D0 tau [d, e] m1 = D0.nx ((tau.set i (some d)).set j (some e)) m1 := propext ⟨fun ⟨_, _, e, h⟩ => by cases e; exact h, fun h => ⟨d, e, rfl, h⟩⟩
/-! targets -/
theorem st_gname {i : Nat} {QQ : DEnv → Mu → Prop} : dgName i d tau m QQ Ex = QQ (tau.set i (some d)) m := rfl
theorem st_gnil {QQ : DEnv → Mu → Prop} : dgNil [] tau m QQ Ex = QQ tau m := rfl
def kG (u : TDGs) (r : List D) (QQ : DEnv → Mu → Prop) (Ex : DX) : DEnv → Mu → Prop := fun tau' m' => u r tau' m' QQ Ex
theorem st_gcons {t : TDG} {u : TDGs} {r : List D} {QQ : DEnv → Mu → Prop} : dgCons t u (d :: r) tau m QQ Ex = t d tau m (kG u r QQ Ex) Ex := rfl
theorem st_g1 {u : TDGs} {r : List D} {QQ : DEnv → Mu → Prop} : kG u r QQ Ex tau m = u r tau m QQ Ex := rfl
theorem st_gtup {n : Nat} {t : TDGs} {QQ : DEnv → Mu → Prop} : dgTup n t (.tup ds) tau m QQ Ex = (ds.length = n ∧ t ds tau m QQ Ex) := rfl
end
end DL
/-! DL12: the operations by the constructors of what they take. -/
namespace DL
open PySem PySem.Spec PyProof.Rows L2
def onL {α : Type} (o : Option α) (k : α → Prop) : Prop := match o with
  | some x => k x
  | none => False
theorem onL_some {α : Type} {x : α} {k : α → Prop} : onL (some x) k = k x := rfl
theorem onL_eq {α : Type} {o : Option α} {k : α → Prop} : (∃ x, o = some x ∧ k x) = onL o k := propext ⟨fun ⟨x, e, h⟩ => by subst e; exact h, fun h => by
  cases o with
  | none => exact h.elim
  | some x => exact ⟨x, rfl, h⟩⟩
theorem onL_of {α : Type} {o : Option α} {k : α → Prop} {x : α} (e : o = some x) (h : k x) : onL o k := by subst e; exact h
def lsM : Option MO → Option (List D)
  | some (.lst ds) => some ds
  | _ => none
def dcM : Option MO → Option (List (Key × D))
  | some (.dic ds) => some ds
  | _ => none
section
variable {m : Mu} {Q : DQ} {d e : D} {ds es xs ys : List D} {b mk neg : Bool} {i j : Int} {p : Addr} {x y : Str}
theorem lsM_lst : lsM (some (.lst ds)) = some ds := rfl
theorem dcM_dic {kvs : List (Key × D)} : dcM (some (.dic kvs)) = some kvs := rfl
theorem lsD_refM : lsD m (.ref p) = lsM (m p) := by
  show (match m p with | some (.lst ds) => some ds | _ => none) = _
  cases m p with
  | none => rfl
  | some o => cases o <;> rfl
theorem lsT_refM : lsT m (.ref p) = lsM (m p) := by
  show (match m p with | some (.lst ds) => some ds | _ => none) = _
  cases m p with
  | none => rfl
  | some o => cases o <;> rfl
theorem lsT_lst : lsT m (.lst ds) = some ds := rfl
theorem dcD_refM : dcD m (.ref p) = dcM (m p) := by
  show (match m p with | some (.dic ds) => some ds | _ => none) = _
  cases m p with
  | none => rfl
  | some o => cases o <;> rfl
theorem dcD_dic {kvs : List (Key × D)} : dcD m (.dic kvs) = some kvs := rfl
theorem lsM_some {o : Option MO} : (lsM o = some ds) = (o = some (.lst ds)) := propext ⟨fun h => by
  cases o with
  | none => cases h
  | some o => cases o <;> cases h; rfl, fun h => by subst h; rfl⟩
theorem dcM_some {kvs : List (Key × D)} {o : Option MO} : (dcM o = some kvs) = (o = some (.dic kvs)) := propext ⟨fun h => by
  cases o with
  | none => cases h
  | some o => cases o <;> cases h; rfl, fun h => by subst h; rfl⟩
/-! + -/
def kAddL (mk : Bool) (xs : List D) (m : Mu) (Q : DQ) : List D → Prop := fun ys => xs.length + ys.length ≤ sizeLine ∧ mkL mk (xs ++ ys) m Q
theorem so_addL : kAddL mk xs m Q ys = (xs.length + ys.length ≤ sizeLine ∧ mkL mk (xs ++ ys) m Q) := rfl
def kAddR (mk : Bool) (e : D) (m : Mu) (Q : DQ) : List D → Prop := fun xs => onL (lsD m e) (kAddL mk xs m Q)
theorem so_addR : kAddR mk e m Q xs = onL (lsD m e) (kAddL mk xs m Q) := rfl
theorem so_add_ii : rdAdd mk (.int i) (.int j) m Q = Q (.int (i + j)) m := rfl
theorem so_add_ib : rdAdd mk (.int i) (.bl b) m Q = Q (.int (i + b2i b)) m := rfl
theorem so_add_ss : rdAdd mk (.str x) (.str y) m Q = (x.length + y.length ≤ sizeLine ∧ Q (.str (x ++ y)) m) := rfl
theorem so_add_tt : rdAdd mk (.tup xs) (.tup ys) m Q = (xs.length + ys.length ≤ sizeLine ∧ Q (.tup (xs ++ ys)) m) := rfl
theorem add_gen : (∃ xs ys, lsD m d = some xs ∧ lsD m e = some ys ∧ xs.length + ys.length ≤ sizeLine ∧ mkL mk (xs ++ ys) m Q) = onL (lsD m d) (kAddR mk e m Q) := by
  rw [← onL_eq]
  refine propext ⟨fun ⟨xs, ys, h1, h2, h⟩ => ⟨xs, h1, ?_⟩, fun ⟨xs, h1, h⟩ => ?_⟩
  · exact onL_of h2 h
  · rw [so_addR, ← onL_eq] at h
    obtain ⟨ys, h2, h⟩ := h
    exact ⟨xs, ys, h1, h2, h⟩
theorem so_add_l : rdAdd mk (.lst xs) e m Q = kAddR mk e m Q xs := by
  have : rdAdd mk (.lst xs) e m Q = onL (lsD m (.lst xs)) (kAddR mk e m Q) := by rw [← add_gen]; cases e <;> rfl
  exact this
theorem so_add_c : rdAdd mk (.scr xs) e m Q = kAddR mk e m Q xs := by
  have : rdAdd mk (.scr xs) e m Q = onL (lsD m (.scr xs)) (kAddR mk e m Q) := by rw [← add_gen]; cases e <;> rfl
  exact this
theorem so_add_r : rdAdd mk (.ref p) e m Q = onL (lsM (m p)) (kAddR mk e m Q) := by
  have : rdAdd mk (.ref p) e m Q = onL (lsD m (.ref p)) (kAddR mk e m Q) := by rw [← add_gen]; cases e <;> rfl
  rw [lsD_refM] at this; exact this
/-! numbers, orders -/
theorem so_sub : rdSub (.int i) (.int j) m Q = Q (.int (i - j)) m := rfl
theorem so_mul : rdMul mk (.int i) (.int j) m Q = (CMulD i j ∧ Q (.int (i * j)) m) := rfl
theorem so_mulL : rdMul mk (.lst xs) (.int j) m Q = ((-(2 ^ 63) ≤ j ∧ j < 2 ^ 63 ∧ xs.length * j.toNat ≤ sizeLine) ∧ mkL mk (List.replicate j.toNat xs).flatten m Q) := rfl
theorem so_div : rdDiv (.int i) (.int j) m Q = (CDivD j ∧ Q (.int (i / j)) m) := rfl
theorem so_mod : rdMod (.int i) (.int j) m Q = (0 < j ∧ Q (.int (i % j)) m) := rfl
theorem so_pow : rdPow (.int i) (.int j) m Q = (CPowD i j ∧ Q (.int (i ^ j.toNat)) m) := rfl
theorem so_neg : rdNeg (.int i) m Q = Q (.int (-i)) m := rfl
theorem so_lt : rdLt (.int i) (.int j) m Q = Q (.bl (decide (i < j))) m := rfl
theorem so_le : rdLe (.int i) (.int j) m Q = Q (.bl (decide (i ≤ j))) m := rfl
theorem so_gt : rdGt (.int i) (.int j) m Q = Q (.bl (decide (j < i))) m := rfl
theorem so_ge : rdGe (.int i) (.int j) m Q = Q (.bl (decide (j ≤ i))) m := rfl
theorem so_eq : rdEq false (.int i) (.int j) m Q = Q (.bl (decide (i = j))) m := propext (eq_int_iff (neg := false))
theorem so_ne : rdEq true (.int i) (.int j) m Q = Q (.bl (!decide (i = j))) m := propext (eq_int_iff (neg := true))
theorem so_eqb {a b : Bool} : rdEq false (.bl a) (.bl b) m Q = Q (.bl (decide (a = b))) m := propext (eq_bl_iff (neg := false))
theorem so_neb {a b : Bool} : rdEq true (.bl a) (.bl b) m Q = Q (.bl (!decide (a = b))) m := propext (eq_bl_iff (neg := true))
theorem so_eqs : rdEq false (.str x) (.str y) m Q = Q (.bl (decide (x = y))) m := propext (eq_str_iff (neg := false))
theorem so_nes : rdEq true (.str x) (.str y) m Q = Q (.bl (!decide (x = y))) m := propext (eq_str_iff (neg := true))
theorem so_isN : rdIsN false d .non m Q = Q (.bl (isNonD d)) m := propext ⟨fun h => h.2, fun h => ⟨rfl, h⟩⟩
theorem so_notN : rdIsN true d .non m Q = Q (.bl (!isNonD d)) m := propext ⟨fun h => h.2, fun h => ⟨rfl, h⟩⟩
theorem so_isB {a b : Bool} : rdIsB false (.bl a) (.bl b) m Q = Q (.bl (decide (a = b))) m := propext ⟨fun ⟨_, _, e, e', h⟩ => by cases e; cases e'; exact h, fun h => ⟨a, b, rfl, rfl, h⟩⟩
theorem so_notB {a b : Bool} : rdIsB true (.bl a) (.bl b) m Q = Q (.bl (!decide (a = b))) m := propext ⟨fun ⟨_, _, e, e', h⟩ => by cases e; cases e'; exact h, fun h => ⟨a, b, rfl, rfl, h⟩⟩
theorem so_isT {c : String} {f : D → Bool} : rdIsT c f [d, .ty c] m Q = (fz d = true ∧ Q (.bl (f d)) m) := propext ⟨fun ⟨_, e, h⟩ => by cases e; exact h, fun h => ⟨d, rfl, h⟩⟩
/-! subscripts -/
def kAt (Q : DQ) (m : Mu) : D → Prop := fun d => Q d m
theorem so_at : kAt Q m d = Q d m := rfl
def kIx (i : Int) (Q : DQ) (m : Mu) : List D → Prop := fun ds => onL (atI ds i) (kAt Q m)
theorem so_ix1 : kIx i Q m ds = onL (atI ds i) (kAt Q m) := rfl
theorem ix_gen : (∃ ds d, lsD m e = some ds ∧ atI ds i = some d ∧ Q d m) = onL (lsD m e) (kIx i Q m) := by
  rw [← onL_eq]
  refine propext ⟨fun ⟨ds, d, h1, h2, h⟩ => ⟨ds, h1, onL_of h2 h⟩, fun ⟨ds, h1, h⟩ => ?_⟩
  rw [so_ix1, ← onL_eq] at h
  obtain ⟨d, h2, h⟩ := h
  exact ⟨ds, d, h1, h2, h⟩
theorem so_ix_l : rdIx (.lst ds) (.int i) m Q = onL (atI ds i) (kAt Q m) := by
  have : rdIx (.lst ds) (.int i) m Q = onL (lsD m (.lst ds)) (kIx i Q m) := by rw [← ix_gen]; rfl
  exact this
theorem so_ix_c : rdIx (.scr ds) (.int i) m Q = onL (atI ds i) (kAt Q m) := by
  have : rdIx (.scr ds) (.int i) m Q = onL (lsD m (.scr ds)) (kIx i Q m) := by rw [← ix_gen]; rfl
  exact this
theorem so_ix_r : rdIx (.ref p) (.int i) m Q = onL (lsM (m p)) (kIx i Q m) := by
  have : rdIx (.ref p) (.int i) m Q = onL (lsD m (.ref p)) (kIx i Q m) := by rw [← ix_gen]; rfl
  rw [lsD_refM] at this; exact this
theorem so_ix_t : rdIx (.tup ds) (.int i) m Q = onL (atI ds i) (kAt Q m) := by rw [← onL_eq]; rfl
/-! slices -/
theorem so_sl_l {lo hi : Option Int} : rdSl mk (.lst ds) lo hi m Q = mkL mk (cutD ds lo hi) m Q := propext ⟨fun ⟨_, e, h⟩ => by cases e; exact h, fun h => ⟨ds, rfl, h⟩⟩
theorem so_sl_c {lo hi : Option Int} : rdSl mk (.scr ds) lo hi m Q = mkL mk (cutD ds lo hi) m Q := propext ⟨fun ⟨_, e, h⟩ => by cases e; exact h, fun h => ⟨ds, rfl, h⟩⟩
def kSlR (mk : Bool) (lo hi : Option Int) (m : Mu) (Q : DQ) : List D → Prop := fun ds => mkL mk (cutD ds lo hi) m Q
theorem so_slr {lo hi : Option Int} : kSlR mk lo hi m Q ds = mkL mk (cutD ds lo hi) m Q := rfl
theorem so_sl_r {lo hi : Option Int} : rdSl mk (.ref p) lo hi m Q = onL (lsM (m p)) (kSlR mk lo hi m Q) := by rw [← lsD_refM, ← onL_eq]; rfl
theorem so_sl_t {lo hi : Option Int} : rdSl mk (.tup ds) lo hi m Q = Q (.tup (cutD ds lo hi)) m := rfl
theorem so_sl_s {lo hi : Option Int} {z : Str} : rdSl mk (.str z) lo hi m Q = (z.length ≤ sizeLine ∧ Q (.str (cutS z lo hi)) m) := rfl
/-! built-ins -/
def lenM (o : Option MO) (m : Mu) (Q : DQ) : Prop := match o with
  | some (.lst ds) => Q (.int (ds.length : Nat)) m
  | some (.dic ds) => Q (.int (ds.length : Nat)) m
  | _ => False
theorem lenM_lst : lenM (some (.lst ds)) m Q = Q (.int (ds.length : Nat)) m := rfl
theorem lenM_dic {ds : List (Key × D)} : lenM (some (.dic ds)) m Q = Q (.int (ds.length : Nat)) m := rfl
theorem so_len_l : rdLen [.lst ds] m Q = Q (.int (ds.length : Nat)) m := propext ⟨fun ⟨_, e, h⟩ => by cases e; exact h, fun h => ⟨ds, rfl, h⟩⟩
theorem so_len_c : rdLen [.scr ds] m Q = Q (.int (ds.length : Nat)) m := propext ⟨fun ⟨_, e, h⟩ => by cases e; exact h, fun h => ⟨ds, rfl, h⟩⟩
theorem so_len_t : rdLen [.tup ds] m Q = Q (.int (ds.length : Nat)) m := rfl
theorem so_len_d {ds : List (Key × D)} : rdLen [.dic ds] m Q = Q (.int (ds.length : Nat)) m := rfl
theorem so_len_s {z : Str} : rdLen [.str z] m Q = (z.length ≤ sizeLine ∧ Q (.int (z.length : Nat)) m) := rfl
theorem so_len_r : rdLen [.ref p] m Q = lenM (m p) m Q := by
  show ((∃ ds, m p = some (.lst ds) ∧ Q (.int (ds.length : Nat)) m) ∨ (∃ ds, m p = some (.dic ds) ∧ Q (.int (ds.length : Nat)) m)) = _
  refine propext ⟨fun h => ?_, fun h => ?_⟩
  · rcases h with ⟨ds, e, h⟩ | ⟨ds, e, h⟩ <;> rw [e] <;> exact h
  · cases e : m p with
    | none => rw [e] at h; exact h.elim
    | some o =>
      rw [e] at h
      cases o with
      | lst ds => exact .inl ⟨ds, rfl, h⟩
      | dic ds => exact .inr ⟨ds, rfl, h⟩
      | ins _ _ => exact h.elim
theorem so_max : rdMax [.int i, .int j] m Q = Q (.int (if j > i then j else i)) m := rfl
theorem so_min : rdMin [.int i, .int j] m Q = Q (.int (if j < i then j else i)) m := rfl
theorem so_int : rdInt [.int i] m Q = Q (.int i) m := rfl
theorem so_intb : rdInt [.bl b] m Q = Q (.int (if b = true then 1 else 0)) m := rfl
theorem so_str : rdStr [.int i] m Q = (i.natAbs.log2 < 1920 ∧ Q (.str (toString i)) m) := rfl
def kMk (mk : Bool) (m : Mu) (Q : DQ) : List D → Prop := fun ds => mkL mk ds m Q
theorem so_mk : kMk mk m Q ds = mkL mk ds m Q := rfl
theorem so_list_l : rdList mk [.lst ds] m Q = mkL mk ds m Q := propext ⟨fun ⟨_, e, h⟩ => by cases e; exact h, fun h => ⟨ds, rfl, h⟩⟩
theorem so_list_c : rdList mk [.scr ds] m Q = mkL mk ds m Q := propext ⟨fun ⟨_, e, h⟩ => by cases e; exact h, fun h => ⟨ds, rfl, h⟩⟩
theorem so_list_t : rdList mk [.tup ds] m Q = mkL mk ds m Q := rfl
theorem so_list_r : rdList mk [.ref p] m Q = onL (lsM (m p)) (kMk mk m Q) := by rw [← lsD_refM, ← onL_eq]; rfl
def kTp (m : Mu) (Q : DQ) : List D → Prop := fun ds => Q (.tup ds) m
theorem so_tp : kTp m Q ds = Q (.tup ds) m := rfl
theorem so_tuple_l : rdTuple [.lst ds] m Q = Q (.tup ds) m := propext ⟨fun ⟨_, e, h⟩ => by cases e; exact h, fun h => ⟨ds, rfl, h⟩⟩
theorem so_tuple_c : rdTuple [.scr ds] m Q = Q (.tup ds) m := propext ⟨fun ⟨_, e, h⟩ => by cases e; exact h, fun h => ⟨ds, rfl, h⟩⟩
theorem so_tuple_t : rdTuple [.tup ds] m Q = Q (.tup ds) m := rfl
theorem so_tuple_r : rdTuple [.ref p] m Q = onL (lsM (m p)) (kTp m Q) := by rw [← lsD_refM, ← onL_eq]; rfl
/-! methods of lists -/
theorem tyL_r : tyL (.ref p) m = ((lsM (m p)).isSome = true) := by
  refine propext ⟨fun ⟨xs, h⟩ => ?_, fun h => ?_⟩
  · rw [lsD_refM] at h; rw [h]; rfl
  · obtain ⟨xs, h⟩ := Option.isSome_iff_exists.mp h
    exact ⟨xs, by rw [lsD_refM]; exact h⟩
theorem tyL_l : tyL (.lst ds) m = True := propext ⟨fun _ => trivial, fun _ => ⟨ds, rfl⟩⟩
theorem tyS_s {z : Str} : tyS (.str z) m = True := propext ⟨fun _ => trivial, fun _ => ⟨z, rfl⟩⟩
def kApp (e : D) (p : Addr) (m : Mu) (Q : DQ) : List D → Prop := fun ds => ds.length < sizeLine ∧ Q .non (updM m p (.lst (ds ++ [e])))
theorem so_app1 : kApp e p m Q ds = (ds.length < sizeLine ∧ Q .non (updM m p (.lst (ds ++ [e])))) := rfl
theorem so_app : rdAppend (.ref p) [e] m Q = onL (lsM (m p)) (kApp e p m Q) := by
  rw [← onL_eq]
  exact propext ⟨fun ⟨_, ds, _, e1, e2, h1, h⟩ => by cases e1; cases e2; exact ⟨ds, lsM_some.mpr h1, h⟩, fun ⟨ds, h1, h⟩ => ⟨p, ds, e, rfl, rfl, lsM_some.mp h1, h⟩⟩
def kExt (zs : List D) (p : Addr) (m : Mu) (Q : DQ) : List D → Prop := fun ds => ds.length + zs.length ≤ sizeLine ∧ Q .non (updM m p (.lst (ds ++ zs)))
theorem so_ext2 {zs : List D} : kExt zs p m Q ds = (ds.length + zs.length ≤ sizeLine ∧ Q .non (updM m p (.lst (ds ++ zs)))) := rfl
def kExt0 (p : Addr) (m : Mu) (Q : DQ) : List D → Prop := fun zs => onL (lsM (m p)) (kExt zs p m Q)
theorem so_ext1 {zs : List D} : kExt0 p m Q zs = onL (lsM (m p)) (kExt zs p m Q) := rfl
theorem so_ext : rdExtend (.ref p) [e] m Q = onL (lsT m e) (kExt0 p m Q) := by
  rw [← onL_eq]
  refine propext ⟨fun ⟨_, ds, _, zs, e1, e2, h1, h2, h⟩ => by cases e1; cases e2; exact ⟨zs, h2, onL_of (lsM_some.mpr h1) h⟩, fun ⟨zs, h2, h⟩ => ?_⟩
  rw [so_ext1, ← onL_eq] at h
  obtain ⟨ds, h1, h⟩ := h
  exact ⟨p, ds, e, zs, rfl, rfl, lsM_some.mp h1, h2, h⟩
def kPop (p : Addr) (m : Mu) (Q : DQ) : List D → Prop := fun ds => ∃ z, ds[ds.length - 1]? = some z ∧ Q z (updM m p (.lst ds.dropLast))
theorem so_pop1 : kPop p m Q ds = ∃ z, ds[ds.length - 1]? = some z ∧ Q z (updM m p (.lst ds.dropLast)) := rfl
theorem so_pop : rdPop (.ref p) [] m Q = onL (lsM (m p)) (kPop p m Q) := by
  rw [← onL_eq]
  exact propext ⟨fun ⟨_, ds, z, e1, _, h1, h⟩ => by cases e1; exact ⟨ds, lsM_some.mpr h1, z, h⟩, fun ⟨ds, h1, z, h⟩ => ⟨p, ds, z, rfl, rfl, lsM_some.mp h1, h⟩⟩
def kRev (p : Addr) (m : Mu) (Q : DQ) : List D → Prop := fun ds => Q .non (updM m p (.lst ds.reverse))
theorem so_rev1 : kRev p m Q ds = Q .non (updM m p (.lst ds.reverse)) := rfl
theorem so_rev : rdReverse (.ref p) [] m Q = onL (lsM (m p)) (kRev p m Q) := by
  rw [← onL_eq]
  exact propext ⟨fun ⟨_, ds, e1, _, h1, h⟩ => by cases e1; exact ⟨ds, lsM_some.mpr h1, h⟩, fun ⟨ds, h1, h⟩ => ⟨p, ds, rfl, rfl, lsM_some.mp h1, h⟩⟩
def kClr (p : Addr) (m : Mu) (Q : DQ) : List D → Prop := fun _ => Q .non (updM m p (.lst []))
theorem so_clr1 : kClr p m Q ds = Q .non (updM m p (.lst [])) := rfl
theorem so_clr : rdClear (.ref p) [] m Q = onL (lsM (m p)) (kClr p m Q) := by
  rw [← onL_eq]
  exact propext ⟨fun ⟨_, ds, e1, _, h1, h⟩ => by cases e1; exact ⟨ds, lsM_some.mpr h1, h⟩, fun ⟨ds, h1, h⟩ => ⟨p, ds, rfl, rfl, lsM_some.mp h1, h⟩⟩
/-! dicts -/
def kGet (k : Key) (Q : DQ) (m : Mu) : List (Key × D) → Prop := fun kvs => onL (valD kvs k) (kAt Q m)
theorem so_get1 {k : Key} {kvs : List (Key × D)} : kGet k Q m kvs = onL (valD kvs k) (kAt Q m) := rfl
theorem get_gen {k : Key} : rdGet e (kD k) m Q = onL (dcD m e) (kGet k Q m) := by
  rw [← onL_eq]
  refine propext ⟨fun ⟨k', kvs, z, h1, h2, h3, h⟩ => ?_, fun ⟨kvs, h1, h⟩ => ?_⟩
  · have : k' = k := by cases k <;> cases k' <;> cases h2 <;> rfl
    subst this
    exact ⟨kvs, h1, onL_of h3 h⟩
  · rw [so_get1, ← onL_eq] at h
    obtain ⟨z, h2, h⟩ := h
    exact ⟨k, kvs, z, h1, rfl, h2, h⟩
theorem so_get_i : rdGet e (.int i) m Q = onL (dcD m e) (kGet (.inl i) Q m) := get_gen (k := .inl i)
theorem so_get_s : rdGet e (.str x) m Q = onL (dcD m e) (kGet (.inr x) Q m) := get_gen (k := .inr x)
/-! comprehensions -/
def kT3 (p : Addr) (acc : List D) (G : List D → Mu → Prop) : DQ := fun y m4 => m4 p = some (.lst acc) ∧ acc.length < sizeLine ∧ G (acc ++ [y]) (updM m4 p (.lst (acc ++ [y])))
def kT2 (te : TD) (p : Addr) (acc : List D) (G : List D → Mu → Prop) (tau : DEnv) : Bool → Mu → Prop := fun b m3 => if b = true then te tau m3 (kT3 p acc G) NX else G acc m3
def kT1 (tt : TDT) (te : TD) (p : Addr) (acc : List D) (G : List D → Mu → Prop) : DEnv → Mu → Prop := fun tau2 m2 => tt tau2 m2 (kT2 te p acc G tau2) NX
variable {gd : TDG} {tt : TDT} {te : TD} {vs : List Nat} {tau : DEnv} {acc : List D} {G : List D → Mu → Prop}
theorem st_turn : CTurn gd tt te vs tau p d acc m G = gd d (wipeD tau vs) m (kT1 tt te p acc G) NX := rfl
theorem st_t1 : kT1 tt te p acc G tau m = tt tau m (kT2 te p acc G tau) NX := rfl
theorem st_t2T : kT2 te p acc G tau true m = te tau m (kT3 p acc G) NX := if_pos rfl
theorem st_t2F : kT2 te p acc G tau false m = G acc m := if_neg Bool.false_ne_true
theorem st_t3 : kT3 p acc G d m = (m p = some (.lst acc) ∧ acc.length < sizeLine ∧ G (acc ++ [d]) (updM m p (.lst (acc ++ [d])))) := rfl
end
/-! two ways -/
theorem ifD {c : Prop} {_ : Decidable c} {p q : Prop} (h1 : c → p) (h2 : ¬ c → q) : if decide c = true then p else q := by
  by_cases h : c
  · rw [if_pos (decide_eq_true h)]; exact h1 h
  · rw [if_neg (by rw [decide_eq_false h]; exact Bool.false_ne_true)]; exact h2 h
theorem ifN {c : Prop} {_ : Decidable c} {p q : Prop} (h1 : ¬ c → p) (h2 : c → q) : if (!decide c) = true then p else q := by
  by_cases h : c
  · rw [if_neg (by rw [decide_eq_true h]; exact Bool.false_ne_true)]; exact h2 h
  · rw [if_pos (by rw [decide_eq_false h]; rfl)]; exact h1 h
end DL
/-! DL13: data that fit a bound, also through the store. -/
namespace DL
open PySem PySem.Spec PyProof.Rows L2
theorem textFrom_le : ∀ (ts : List Str) (k : Nat) (acc : Str), (textFrom k acc ts).length ≤ acc.length + piled ts
  | [], _, acc => by show acc.length ≤ acc.length + 0; omega
  | t :: r, k, acc => by
    have ih := textFrom_le r (k + 1) (acc ++ (if k > 0 then ", " else "" : String) ++ t)
    have e : (acc ++ (if k > 0 then ", " else "" : String) ++ t).length ≤ acc.length + 2 + t.length := by
      rw [strLen_append, strLen_append]
      split
      · exact Nat.le_refl _
      · show acc.length + 0 + t.length ≤ _
        omega
    show (textFrom (k + 1) _ r).length ≤ _
    rw [piled_cons]; omega
theorem listText_le (ts : List Str) : (listText ts).length ≤ piled ts + 3 := by
  unfold listText
  rw [strLen_append]
  have := textFrom_le ts 0 "["
  have e1 : ((("[" : String) : Str)).length = 1 := rfl
  have e2 : ((("]" : String) : Str)).length = 1 := rfl
  rw [e1] at this
  rw [e2]; omega
theorem tupleText_le (ts : List Str) : (tupleText ts).length ≤ piled ts + 3 := by
  unfold tupleText
  rw [strLen_append, strLen_append]
  have e1 : ((("(" : String) : Str)).length = 1 := rfl
  have e3 : (((if ts.length == 1 then ",)" else ")" : String) : Str)).length ≤ 2 := by split <;> decide
  rw [e1]
  by_cases h : ts = []
  · subst h
    have : (Str.join ", " []).length = 0 := rfl
    omega
  · have := join_length_add ts h
    omega
theorem piled_shown {w : Nat} : ∀ {ps : List PyData}, (∀ p ∈ ps, p.shown.length ≤ w) → piled (PyData.shownAll ps) ≤ ps.length * (w + 2)
  | [], _ => by simp [PyData.shownAll, piled]
  | p :: r, h => by
    rw [PyData.shownAll, piled_cons, List.length_cons, Nat.succ_mul]
    have h1 := h p List.mem_cons_self
    have := piled_shown (ps := r) fun q hq => h q (List.mem_cons_of_mem _ hq)
    omega
theorem showableAll_of : ∀ {ps : List PyData}, (∀ p ∈ ps, p.showable = true) → PyData.showableAll ps = true
  | [], _ => by simp [PyData.showableAll]
  | p :: r, h => by
    rw [PyData.showableAll, h p List.mem_cons_self, showableAll_of fun q hq => h q (List.mem_cons_of_mem _ hq)]
    rfl
theorem hasDictAll_of : ∀ {ps : List PyData}, (∀ p ∈ ps, p.hasDict = false) → PyData.hasDictAll ps = false
  | [], _ => by simp [PyData.hasDictAll]
  | p :: r, h => by
    rw [PyData.hasDictAll, h p List.mem_cons_self, hasDictAll_of fun q hq => h q (List.mem_cons_of_mem _ hq)]
    rfl
theorem depthAll_of {k : Nat} : ∀ {ps : List PyData}, (∀ p ∈ ps, p.depth ≤ k) → PyData.depthAll ps ≤ k
  | [], _ => by simp [PyData.depthAll]
  | p :: r, h => by
    rw [PyData.depthAll]
    exact Nat.max_le.mpr ⟨h p List.mem_cons_self, depthAll_of fun q hq => h q (List.mem_cons_of_mem _ hq)⟩
/-- frozen data: its text has at most w signs, its depth is at most dp -/
structure Fit (w dp : Nat) (e : D) : Prop where
  pl : DL.plain e = true
  nd : (toP e).hasDict = false
  dp : (toP e).depth ≤ dp
  sh : (toP e).showable = true
  ln : (toP e).shown.length ≤ w
theorem Fit.mono {w w' k k' : Nat} {e : D} (h : Fit w k e) (a : w ≤ w') (b : k ≤ k') : Fit w' k' e := ⟨h.pl, h.nd, Nat.le_trans h.dp b, h.sh, Nat.le_trans h.ln a⟩
theorem fit_non : Fit 4 1 .non := ⟨rfl, by simp [toP, PyData.hasDict], by simp [toP, PyData.depth], by simp [toP, PyData.showable], by rw [toP, PyData.shown]; decide +kernel⟩
theorem fit_bl {b : Bool} : Fit 5 1 (.bl b) := ⟨rfl, by simp [toP, PyData.hasDict], by simp [toP, PyData.depth], by simp [toP, PyData.showable], by rw [toP, PyData.shown]; cases b <;> decide +kernel⟩
theorem fit_int {i : Int} {k : Nat} (h0 : 0 < k) (h : i.natAbs < 10 ^ k) (hk : k ≤ 500) : Fit (k + 1) 1 (.int i) := ⟨rfl, by simp [toP, PyData.hasDict], by simp [toP, PyData.depth], by
  rw [toP, PyData.showable]
  refine decide_eq_true ?_
  by_cases z : i.natAbs = 0
  · rw [z]; decide
  · refine (Nat.log2_lt z).mpr (Nat.lt_of_lt_of_le h (Nat.le_trans (Nat.pow_le_pow_right (by decide) hk) (by decide +kernel))), by
  rw [toP, PyData.shown]
  show (Str.ofString (toString i)).length ≤ _
  rw [_root_.PySem.ofString_length]
  exact int_text_length_le10 h0 h⟩
theorem fits_of {w k : Nat} : ∀ {es : List D}, (∀ e ∈ es, Fit w k e) → plainAll es = true ∧ (∀ p ∈ toPs es, p.hasDict = false ∧ p.depth ≤ k ∧ p.showable = true ∧ p.shown.length ≤ w) ∧ (toPs es).length = es.length
  | [], _ => ⟨rfl, fun p h => by simp [toPs] at h, rfl⟩
  | e :: r, h => by
    obtain ⟨h1, h2, h3⟩ := fits_of fun q hq => h q (List.mem_cons_of_mem _ hq)
    have g := h e List.mem_cons_self
    refine ⟨by rw [plainAll, g.pl, h1]; rfl, fun p hp => ?_, by rw [toPs, List.length_cons, h3]; rfl⟩
    rw [toPs] at hp
    rcases List.mem_cons.mp hp with rfl | hp
    · exact ⟨g.nd, g.dp, g.sh, g.ln⟩
    · exact h2 p hp
theorem Fit.lst {w k n W K : Nat} {es : List D} (h : ∀ e ∈ es, Fit w k e) (l : es.length ≤ n) (hw : n * (w + 2) + 3 ≤ W) (hk : k + 1 ≤ K) : Fit W K (.lst es) := by
  obtain ⟨h1, h2, h3⟩ := fits_of h
  have h4 := piled_shown fun p hp => (h2 p hp).2.2.2
  have h5 : (toPs es).length * (w + 2) ≤ n * (w + 2) := Nat.mul_le_mul_right _ (by omega)
  have h6 := listText_le (PyData.shownAll (toPs es))
  have h7 := depthAll_of fun p hp => (h2 p hp).2.1
  refine ⟨by rw [DL.plain]; exact h1, ?_, ?_, ?_, ?_⟩
  · rw [toP, PyData.hasDict]; exact hasDictAll_of fun p hp => (h2 p hp).1
  · rw [toP, PyData.depth]; omega
  · rw [toP, PyData.showable]; exact showableAll_of fun p hp => (h2 p hp).2.2.1
  · rw [toP, PyData.shown]; omega
theorem Fit.tup {w k n W K : Nat} {es : List D} (h : ∀ e ∈ es, Fit w k e) (l : es.length ≤ n) (hw : n * (w + 2) + 3 ≤ W) (hk : k + 1 ≤ K) : Fit W K (.tup es) := by
  obtain ⟨h1, h2, h3⟩ := fits_of h
  have h4 := piled_shown fun p hp => (h2 p hp).2.2.2
  have h5 : (toPs es).length * (w + 2) ≤ n * (w + 2) := Nat.mul_le_mul_right _ (by omega)
  have h6 := tupleText_le (PyData.shownAll (toPs es))
  have h7 := depthAll_of fun p hp => (h2 p hp).2.1
  refine ⟨by rw [DL.plain]; exact h1, ?_, ?_, ?_, ?_⟩
  · rw [toP, PyData.hasDict]; exact hasDictAll_of fun p hp => (h2 p hp).1
  · rw [toP, PyData.depth]; omega
  · rw [toP, PyData.showable]; exact showableAll_of fun p hp => (h2 p hp).2.2.1
  · rw [toP, PyData.shown]; omega
/-- what d is, when the store is frozen, fits -/
def FitV (m : Mu) (w dp : Nat) (d : D) : Prop := ∃ e, Vw m (fun _ => true) d e ∧ Fit w dp e
theorem Fit.v {m : Mu} {w dp : Nat} {e : D} (h : Fit w dp e) : FitV m w dp e := ⟨e, .same e, h⟩
theorem FitV.mono {m : Mu} {w w' k k' : Nat} {e : D} (h : FitV m w k e) (a : w ≤ w') (b : k ≤ k') : FitV m w' k' e := let ⟨e, v, f⟩ := h; ⟨e, v, f.mono a b⟩
theorem fitVs {m : Mu} {w dp : Nat} : ∀ {ds : List D}, (∀ d ∈ ds, FitV m w dp d) → ∃ es, Vws m (fun _ => true) ds es ∧ es.length = ds.length ∧ ∀ e ∈ es, Fit w dp e
  | [], _ => ⟨[], .nil, rfl, fun e h => nomatch h⟩
  | d :: r, h => by
    obtain ⟨es, v, l, f⟩ := fitVs fun q hq => h q (List.mem_cons_of_mem _ hq)
    obtain ⟨e, v1, f1⟩ := h d List.mem_cons_self
    refine ⟨e :: es, .cons v1 v, by rw [List.length_cons, l]; rfl, fun q hq => ?_⟩
    rcases List.mem_cons.mp hq with rfl | hq
    · exact f1
    · exact f q hq
theorem FitV.lst {m : Mu} {w k n W K : Nat} {ds : List D} (h : ∀ e ∈ ds, FitV m w k e) (l : ds.length ≤ n) (hw : n * (w + 2) + 3 ≤ W) (hk : k + 1 ≤ K) : FitV m W K (.lst ds) := by
  obtain ⟨es, v, l', f⟩ := fitVs h
  exact ⟨.lst es, .lst v, .lst f (by omega) hw hk⟩
theorem FitV.tup {m : Mu} {w k n W K : Nat} {ds : List D} (h : ∀ e ∈ ds, FitV m w k e) (l : ds.length ≤ n) (hw : n * (w + 2) + 3 ≤ W) (hk : k + 1 ≤ K) : FitV m W K (.tup ds) := by
  obtain ⟨es, v, l', f⟩ := fitVs h
  exact ⟨.tup es, .tup v, .tup f (by omega) hw hk⟩
theorem FitV.ref {m : Mu} {w k n W K : Nat} {p : Addr} {ds : List D} (e : m p = some (.lst ds)) (h : ∀ e ∈ ds, FitV m w k e) (l : ds.length ≤ n) (hw : n * (w + 2) + 3 ≤ W) (hk : k + 1 ≤ K) : FitV m W K (.ref p) := by
  obtain ⟨es, v, l', f⟩ := fitVs h
  exact ⟨.lst es, .ref e rfl v, .lst f (by omega) hw hk⟩
theorem PV.fit {m : Mu} {w k : Nat} {e : D} (h : Fit w k e) : PV m e (toP e) := PV.plain e h.pl h.nd
theorem all_app {P : D → Prop} {xs ys : List D} (h1 : ∀ x ∈ xs, P x) (h2 : ∀ x ∈ ys, P x) : ∀ x ∈ xs ++ ys, P x := fun x h => (List.mem_append.mp h).elim (h1 x) (h2 x)
theorem all_take {P : D → Prop} {xs : List D} {k : Nat} (h : ∀ x ∈ xs, P x) : ∀ x ∈ xs.take k, P x := fun x hx => h x (List.mem_of_mem_take hx)
theorem all_drop {P : D → Prop} {xs : List D} {k : Nat} (h : ∀ x ∈ xs, P x) : ∀ x ∈ xs.drop k, P x := fun x hx => h x (List.mem_of_mem_drop hx)
theorem all_nil {P : D → Prop} : ∀ x ∈ ([] : List D), P x := fun x h => nomatch h
theorem all_cons {P : D → Prop} {y : D} {ys : List D} (h1 : P y) (h2 : ∀ x ∈ ys, P x) : ∀ x ∈ y :: ys, P x := fun x h => (List.mem_cons.mp h).elim (fun e => e ▸ h1) (h2 x)
theorem all_at {P : D → Prop} {xs : List D} {i : Int} (h : ∀ x ∈ xs, P x) (h0 : 0 ≤ i) (h1 : i < xs.length) : ∃ x, atI xs i = some x ∧ P x := by
  obtain ⟨j, rfl⟩ := Int.eq_ofNat_of_zero_le h0
  have hj : j < xs.length := by omega
  exact ⟨xs[j], atI_nat (List.getElem?_eq_getElem hj), h _ (List.getElem_mem hj)⟩
end DL
namespace Law
open PySem PySem.Spec PyProof.Rows L2 DL
/-! ### stepping -/
local macro_rules | `(tactic| walk_at "s") => `(tactic| simp only [dSeq, dNext, dIfS, dRet, dRetN, dDrop, dSet, dAsg, dAug, dCut, dPar, dBreak, dCont, dVar, dC, dOp, dB, dAnd, dOr, dNot, dAndV, dOrV, dNotV, dIf, dNil, dCons, dTup, dLst, dLstM, dCB, dBM, dBM0, dCall, dChain, dUn, dSl, dNoPart, dPart, dDNew, dDNewF,
  rdAdd, rdSub, rdMul, rdDiv, rdMod, rdPow, rdNeg, rdCmp, rdLt, rdLe, rdGt, rdGe, rdIsN, rdIsB, rdIsi, rdIsT, rdLen, rdMax, rdMin, rdInt, rdStr, rdList, rdTuple, rdIx, mkL, rdSl,
  eq_int_iff, eq_bl_iff, dYes, dgSub, ix30, ix31, ix32, dgName, dgTup, dgCons, dgNil, wipeD, List.map_cons, List.map_nil, List.set_cons_zero, List.set_cons_succ, List.getElem?_cons_zero, List.getElem?_cons_succ, Option.some.injEq, exists_eq_left', exists_eq_left, exists_eq_right, and_true, true_and, if_true, if_false, Bool.false_eq_true, reduceIte, reduceCtorEq, List.cons.injEq, List.nil_append, List.append_nil, List.cons_append, D.int.injEq, D.str.injEq, D.bl.injEq, D.ref.injEq, D.ty.injEq, D.lst.injEq, D.tup.injEq, and_self, lsD_lst, lsD_scr, lsD_updM, updM_same, updM_upd, at0, at1, at2, Nat.zero_add, Nat.reduceAdd, Int.reduceToNat, List.set_cons_zero, List.set_cons_succ, MO.lst.injEq, mkL, exists_const, exists_and_left, and_assoc, Bool.not_true, Bool.not_false, List.length_cons, List.length_nil])
local macro_rules | `(tactic| exists $es,*) => `(tactic| simp only [st_var, st_c, st_op, st_op1, st_op2, st_b, st_b1, st_and, st_andT, st_andF, st_or, st_orT, st_orF, st_not, st_not1, st_andV, st_andV1, st_andVT, st_andVF, st_orV, st_orV1, st_orVT, st_orVF, st_notV, st_notV1, st_ifE, st_ifET, st_ifEF, st_nil, st_cons, st_cons1, st_cons2, st_tup, st_tup1, st_lst, st_lst1, st_lstM, st_lstM1, st_mkT, st_mkF, st_dnew, st_dnewF, st_cb, st_cb1, st_bm, st_bm1, st_bm2, st_bm0, st_bm01, st_ch, st_ch0, st_ch1, st_ch2, st_chT, st_chF, st_ch3, st_un, st_un1, st_sl, st_sl0, st_sl1, st_sl2, st_noPart, st_part, st_part1, st_call, st_call1, st_lend, st_rg1, st_rg11, st_rg2, st_rg21, st_rg22, st_yes, st_next, st_seq, st_break, st_cont, st_drop, st_drop1, st_ret, st_retN, st_if, st_ifT, st_ifF, st_set, st_set1, st_asg, st_asg1, st_aug, st_aug1, st_aug2, st_par, st_par1, st_gname, st_gnil, st_gcons, st_g1, st_gtup, so_addL, so_addR, so_add_ii, so_add_ib, so_add_ss, so_add_tt, so_add_l, so_add_c, so_add_r, so_sub, so_mul, so_mulL, so_div, so_mod, so_pow, so_neg, so_lt, so_le, so_gt, so_ge, so_eq, so_ne, so_eqb, so_neb, so_eqs, so_nes, so_isN, so_notN, so_isB, so_notB, so_isT, so_at, so_ix1, so_ix_l, so_ix_c, so_ix_r, so_ix_t, so_sl_l, so_sl_c, so_slr, so_sl_r, so_sl_t, so_sl_s, so_len_l, so_len_c, so_len_t, so_len_d, so_len_s, so_len_r, so_max, so_min, so_int, so_intb, so_str, so_mk, so_list_l, so_list_c, so_list_t, so_list_r, so_tp, so_tuple_l, so_tuple_c, so_tuple_t, so_tuple_r, so_app1, so_app, so_ext2, so_ext1, so_ext, so_pop1, so_pop, so_rev1, so_rev, so_clr1, so_clr, so_get1, so_get_i, so_get_s, st_turn, st_t1, st_t2T, st_t2F, st_t3, onL_some, lsM_lst, dcM_dic, lsD_refM, lsT_refM, lsT_lst, dcD_refM, dcD_dic, lenM_lst, lenM_dic, tyL_r, tyL_l, tyS_s, Option.isSome_some, lsD_lst, lsD_scr, updM_same, updM_upd, at0, at1, at2, List.getElem?_cons_zero, List.getElem?_cons_succ, List.set_cons_zero, List.set_cons_succ, Option.some.injEq, exists_eq_left', exists_eq_left, exists_eq_right, and_true, true_and, List.nil_append, List.append_nil, List.cons_append, wipeD, Bool.not_true, Bool.not_false, List.length_cons, List.length_nil, Nat.zero_add, Nat.reduceAdd, sizeLine_eq, Nat.reduceLeDiff, Nat.reduceLT, Int.reduceToNat, isNonD, fz, isBoolT, isIntT, isListT, isTupT, isStrT, isDicT, if_true, Bool.false_eq_true, if_false, List.map_cons, List.map_nil, decide_true, decide_false, $[$es:term],*])
local macro_rules | `(tactic| walk_at "t") => `(tactic| simp only [st_var, st_c, st_op, st_op1, st_op2, st_b, st_b1, st_and, st_andT, st_andF, st_or, st_orT, st_orF, st_not, st_not1, st_andV, st_andV1, st_andVT, st_andVF, st_orV, st_orV1, st_orVT, st_orVF, st_notV, st_notV1, st_ifE, st_ifET, st_ifEF, st_nil, st_cons, st_cons1, st_cons2, st_tup, st_tup1, st_lst, st_lst1, st_lstM, st_lstM1, st_mkT, st_mkF, st_dnew, st_dnewF, st_cb, st_cb1, st_bm, st_bm1, st_bm2, st_bm0, st_bm01, st_ch, st_ch0, st_ch1, st_ch2, st_chT, st_chF, st_ch3, st_un, st_un1, st_sl, st_sl0, st_sl1, st_sl2, st_noPart, st_part, st_part1, st_call, st_call1, st_lend, st_rg1, st_rg11, st_rg2, st_rg21, st_rg22, st_yes, st_next, st_seq, st_break, st_cont, st_drop, st_drop1, st_ret, st_retN, st_if, st_ifT, st_ifF, st_set, st_set1, st_asg, st_asg1, st_aug, st_aug1, st_aug2, st_par, st_par1, st_gname, st_gnil, st_gcons, st_g1, st_gtup, so_addL, so_addR, so_add_ii, so_add_ib, so_add_ss, so_add_tt, so_add_l, so_add_c, so_add_r, so_sub, so_mul, so_mulL, so_div, so_mod, so_pow, so_neg, so_lt, so_le, so_gt, so_ge, so_eq, so_ne, so_eqb, so_neb, so_eqs, so_nes, so_isN, so_notN, so_isB, so_notB, so_isT, so_at, so_ix1, so_ix_l, so_ix_c, so_ix_r, so_ix_t, so_sl_l, so_sl_c, so_slr, so_sl_r, so_sl_t, so_sl_s, so_len_l, so_len_c, so_len_t, so_len_d, so_len_s, so_len_r, so_max, so_min, so_int, so_intb, so_str, so_mk, so_list_l, so_list_c, so_list_t, so_list_r, so_tp, so_tuple_l, so_tuple_c, so_tuple_t, so_tuple_r, so_app1, so_app, so_ext2, so_ext1, so_ext, so_pop1, so_pop, so_rev1, so_rev, so_clr1, so_clr, so_get1, so_get_i, so_get_s, st_turn, st_t1, st_t2T, st_t2F, st_t3, onL_some, lsM_lst, dcM_dic, lsD_refM, lsT_refM, lsT_lst, dcD_refM, dcD_dic, lenM_lst, lenM_dic, tyL_r, tyL_l, tyS_s, Option.isSome_some, lsD_lst, lsD_scr, updM_same, updM_upd, at0, at1, at2, List.getElem?_cons_zero, List.getElem?_cons_succ, List.set_cons_zero, List.set_cons_succ, Option.some.injEq, exists_eq_left', exists_eq_left, exists_eq_right, and_true, true_and, List.nil_append, List.append_nil, List.cons_append, wipeD, Bool.not_true, Bool.not_false, List.length_cons, List.length_nil, Nat.zero_add, Nat.reduceAdd, sizeLine_eq, Nat.reduceLeDiff, Nat.reduceLT, Int.reduceToNat, isNonD, fz, isBoolT, isIntT, isListT, isTupT, isStrT, isDicT, if_true, Bool.false_eq_true, if_false, List.map_cons, List.map_nil, decide_true, decide_false])
/-! ### the program's text -/
def topS (i : Nat) : Stmt := PySem.Challenge.pw_putoffs_k01_needs_recognized.main.body.getD i (.Pass ⟨0, 0, 0, 0⟩)
abbrev s_is_integer : Stmt := topS 2
theorem sc_is_integer : FnScope ["value", "least", "most"] ["value", "least", "most"] (defScope s_is_integer) := ⟨rfl, rfl, rfl, by decide +kernel, rfl, by decide +kernel, by decide +kernel⟩
abbrev s_is_entry : Stmt := topS 3
theorem sc_is_entry : FnScope ["count", "task", "value", "one", "other"] ["count", "task", "value"] (defScope s_is_entry) := ⟨rfl, rfl, rfl, by decide +kernel, rfl, by decide +kernel, by decide +kernel⟩
abbrev s_is_needs : Stmt := topS 4
theorem sc_is_needs : FnScope ["value", "task", "entry"] ["value"] (defScope s_is_needs) := ⟨rfl, rfl, rfl, by decide +kernel, rfl, by decide +kernel, by decide +kernel⟩
abbrev s_law_source : Stmt := topS 6
theorem sc_law_source : FnScope ["_law_cell", "_law_k"] ["_law_cell", "_law_k"] (defScope s_law_source) := ⟨rfl, rfl, rfl, by decide +kernel, rfl, by decide +kernel, by decide +kernel⟩
abbrev s_law_draw : Stmt := topS 7
theorem sc_law_draw : FnScope ["_law_source_here", "_law_count", "_law_mixed", "_law_digit"] ["_law_source_here", "_law_count"] (defScope s_law_draw) := ⟨rfl, rfl, rfl, by decide +kernel, rfl, by decide +kernel, by decide +kernel⟩
abbrev s_law_listed : Stmt := topS 8
theorem sc_law_listed : FnScope ["_law_size", "_law_pairs", "_law_rows", "_law_task", "_law_needed", "_law_row"] ["_law_size", "_law_pairs"] (defScope s_law_listed) := ⟨rfl, rfl, rfl, by decide +kernel, rfl, by decide +kernel, by decide +kernel⟩
abbrev s_law_needs : Stmt := topS 9
theorem sc_law_needs : FnScope ["_law_source_here", "_law_most", "_law_size", "_law_many", "_law_step", "_law_style", "_law_pairs", "_law_one", "_law_two", "_law_task"] ["_law_source_here", "_law_most"] (defScope s_law_needs) := ⟨rfl, rfl, rfl, by decide +kernel, rfl, by decide +kernel, by decide +kernel⟩
abbrev s_law_is_fine : Stmt := topS 10
theorem sc_law_is_fine : FnScope ["_law_value", "_law_task", "_law_row", "_law_last", "_law_other"] ["_law_value"] (defScope s_law_is_fine) := ⟨rfl, rfl, rfl, by decide +kernel, rfl, by decide +kernel, by decide +kernel⟩
abbrev s_law_bad_needs : Stmt := topS 11
theorem sc_law_bad_needs : FnScope ["_law_source_here", "_law_rows", "_law_odd", "_law_spot", "_law_some", "_law_at", "_law_size", "_law_head", "_law_own", "_law_tail", "_law_one"] ["_law_source_here", "_law_rows"] (defScope s_law_bad_needs) := ⟨rfl, rfl, rfl, by decide +kernel, rfl, by decide +kernel, by decide +kernel⟩
abbrev s_law_checked : Stmt := topS 12
theorem sc_law_checked : FnScope ["_law_value", "_law_before", "_law_result"] ["_law_value"] (defScope s_law_checked) := ⟨rfl, rfl, rfl, by decide +kernel, rfl, by decide +kernel, by decide +kernel⟩
abbrev s_law_holds : Stmt := topS 13
theorem sc_law_holds : FnScope ["_law_source_here", "_law_most", "_law_rows", "_law_step", "_law_row", "_law_kind", "_law_other"] ["_law_source_here", "_law_most"] (defScope s_law_holds) := ⟨rfl, rfl, rfl, by decide +kernel, rfl, by decide +kernel, by decide +kernel⟩
abbrev s_law : Stmt := topS 14
theorem sc_law : FnScope ["_law_script", "_law_k", "_law_cell"] ["_law_script"] (defScope s_law) := ⟨rfl, rfl, rfl, by decide +kernel, rfl, by decide +kernel, by decide +kernel⟩
structure Adr where
  a_is_integer : Addr
  d_is_integer : FuncData
  a_is_entry : Addr
  d_is_entry : FuncData
  a_is_needs : Addr
  d_is_needs : FuncData
  a__law_source : Addr
  d__law_source : FuncData
  a__law_draw : Addr
  d__law_draw : FuncData
  a__law_listed : Addr
  d__law_listed : FuncData
  a__law_needs : Addr
  d__law_needs : FuncData
  a__law_is_fine : Addr
  d__law_is_fine : FuncData
  a__law_bad_needs : Addr
  d__law_bad_needs : FuncData
  a__law_checked : Addr
  d__law_checked : FuncData
  a__law_holds : Addr
  d__law_holds : FuncData
  a_law : Addr
  d_law : FuncData
  t_MOST_TASKS : Tok
  unit : Unit
structure Txt (K : PySem.W.Frag) (mg : Str → Option Value) (A : Adr) : Prop where
  g_is_integer : mg "is_integer" = some (.ref A.a_is_integer)
  F_is_integer : Fun K "is_integer" "is_integer" s_is_integer A.a_is_integer A.d_is_integer
  b_is_integer : L2.Binds K A.d_is_integer ["value", "least", "most"] []
  g_is_entry : mg "is_entry" = some (.ref A.a_is_entry)
  F_is_entry : Fun K "is_entry" "is_entry" s_is_entry A.a_is_entry A.d_is_entry
  b_is_entry : L2.Binds K A.d_is_entry ["count", "task", "value"] []
  g_is_needs : mg "is_needs" = some (.ref A.a_is_needs)
  F_is_needs : Fun K "is_needs" "is_needs" s_is_needs A.a_is_needs A.d_is_needs
  b_is_needs : L2.Binds K A.d_is_needs ["value"] []
  g__law_source : mg "_law_source" = some (.ref A.a__law_source)
  F__law_source : Fun K "_law_source" "_law_source" s_law_source A.a__law_source A.d__law_source
  b__law_source : L2.Binds K A.d__law_source ["_law_cell", "_law_k"] []
  g__law_draw : mg "_law_draw" = some (.ref A.a__law_draw)
  F__law_draw : Fun K "_law_draw" "_law_draw" s_law_draw A.a__law_draw A.d__law_draw
  b__law_draw : L2.Binds K A.d__law_draw ["_law_source_here", "_law_count"] []
  g__law_listed : mg "_law_listed" = some (.ref A.a__law_listed)
  F__law_listed : Fun K "_law_listed" "_law_listed" s_law_listed A.a__law_listed A.d__law_listed
  b__law_listed : L2.Binds K A.d__law_listed ["_law_size", "_law_pairs"] []
  g__law_needs : mg "_law_needs" = some (.ref A.a__law_needs)
  F__law_needs : Fun K "_law_needs" "_law_needs" s_law_needs A.a__law_needs A.d__law_needs
  b__law_needs : L2.Binds K A.d__law_needs ["_law_source_here", "_law_most"] []
  g__law_is_fine : mg "_law_is_fine" = some (.ref A.a__law_is_fine)
  F__law_is_fine : Fun K "_law_is_fine" "_law_is_fine" s_law_is_fine A.a__law_is_fine A.d__law_is_fine
  b__law_is_fine : L2.Binds K A.d__law_is_fine ["_law_value"] []
  g__law_bad_needs : mg "_law_bad_needs" = some (.ref A.a__law_bad_needs)
  F__law_bad_needs : Fun K "_law_bad_needs" "_law_bad_needs" s_law_bad_needs A.a__law_bad_needs A.d__law_bad_needs
  b__law_bad_needs : L2.Binds K A.d__law_bad_needs ["_law_source_here", "_law_rows"] []
  g__law_checked : mg "_law_checked" = some (.ref A.a__law_checked)
  F__law_checked : Fun K "_law_checked" "_law_checked" s_law_checked A.a__law_checked A.d__law_checked
  b__law_checked : L2.Binds K A.d__law_checked ["_law_value"] []
  g__law_holds : mg "_law_holds" = some (.ref A.a__law_holds)
  F__law_holds : Fun K "_law_holds" "_law_holds" s_law_holds A.a__law_holds A.d__law_holds
  b__law_holds : L2.Binds K A.d__law_holds ["_law_source_here", "_law_most"] []
  g_law : mg "law" = some (.ref A.a_law)
  F_law : Fun K "law" "law" s_law A.a_law A.d_law
  b_law : L2.Binds K A.d_law ["_law_script"] []
  m_all : mg "all" = none
  m_bool : mg "bool" = none
  m_enumerate : mg "enumerate" = none
  m_int : mg "int" = none
  m_isinstance : mg "isinstance" = none
  m_len : mg "len" = none
  m_list : mg "list" = none
  m_max : mg "max" = none
  m_min : mg "min" = none
  m_range : mg "range" = none
  m_repr : mg "repr" = none
  m_sorted : mg "sorted" = none
  m_tuple : mg "tuple" = none
  m_zip : mg "zip" = none
  c_MOST_TASKS : mg "MOST_TASKS" = some (.int 60 A.t_MOST_TASKS)
/-! ### is_integer -/
def isIntD : D → Int → Int → Bool
  | .int i, lo, hi => decide (lo ≤ i) && decide (i ≤ hi)
  | _, _, _ => false
def sp_is_integer : DSp := sp3 fun d a b m Q _ => ∃ lo hi, a = .int lo ∧ b = .int hi ∧ fz d = true ∧ Q (.bl (isIntD d lo hi)) m
section
variable {P : Program} {w : World} {K : PySem.W.Frag} {mg : Str → Option Value} {base : Heap} {Ad : Adr}
set_option maxHeartbeats 4000000 in
theorem ok_is_integer (T : Txt K mg Ad) : FnOk P w K mg base CX0 1 Ad.a_is_integer Ad.d_is_integer ["value", "least", "most"] (spD K sp_is_integer) := by
  refine DL.Fun.okD T.F_is_integer sc_is_integer sp3_len (fun cdv A outer s H E hr => ⟨_, (dss_one (ds_ret (de_and (pe_imp (pe_callB call_isi (by rfl) T.m_isinstance (by decide +kernel) (da_cons (dv 0) (da_cons (de_bty (n := "int") (by rfl) T.m_int (by decide +kernel)) da_nil))) (lift_cb (o_isT kf_int))) (de_and (de_not (pe_imp (pe_callB call_isi (by rfl) T.m_isinstance (by decide +kernel) (da_cons (dv 0) (da_cons (de_bty (n := "bool") (by rfl) T.m_bool (by decide +kernel)) da_nil))) (lift_cb (o_isT kf_bool)))) (de_one (de_chain or_le or_le o_le o_le (dv 1) (dv 0) (dv 2))))))), ?_⟩)
  rintro _ m Q Ex ⟨p0, p1, p2, rfl, h⟩
  change (_ : TDS) _ [some p0, some p1, some p2] m
  obtain ⟨lo, hi, rfl, rfl, ht, h⟩ := h
  walk_at "s"
  simp only [ht, true_and]
  cases p0 <;> simp only [isIntT, isBoolT, isIntD] at h ⊢ <;> walk_at "s"
  all_goals first | exact gq h | skip
  rename_i i
  cases e : decide (lo ≤ i) <;> simp only [e, Bool.false_and, Bool.true_and, if_true, if_false, Bool.false_eq_true] at h ⊢ <;> exact gq h
end
/-! ### is_entry -/
def itemsD : D → List D
  | .lst ds => ds
  | .scr ds => ds
  | _ => []
def ascD : List Int → Bool
  | a :: b :: r => decide (a < b) && ascD (b :: r)
  | _ => true
/-- the ints of data, when all are ints -/
def intsOf : List D → Option (List Int)
  | [] => some []
  | .int i :: r => (intsOf r).map (i :: ·)
  | _ :: _ => none
theorem intsOf_some : ∀ {ds : List D} {ns : List Int}, intsOf ds = some ns → ds = ns.map D.int
  | [], ns, h => by cases h; rfl
  | .int i :: r, ns, h => by
    unfold intsOf at h
    cases e : intsOf r with
    | none => rw [e] at h; cases h
    | some l =>
      rw [e] at h
      cases h
      rw [intsOf_some e]; rfl
  | .non :: _, _, h => by cases h
  | .bl _ :: _, _, h => by cases h
  | .str _ :: _, _, h => by cases h
  | .ty _ :: _, _, h => by cases h
  | .ref _ :: _, _, h => by cases h
  | .lst _ :: _, _, h => by cases h
  | .tup _ :: _, _, h => by cases h
  | .dic _ :: _, _, h => by cases h
  | .ins _ _ :: _, _, h => by cases h
  | .scr _ :: _, _, h => by cases h
theorem intsOf_map : ∀ ns : List Int, intsOf (ns.map D.int) = some ns
  | [] => rfl
  | n :: r => by rw [List.map_cons, intsOf, intsOf_map r]; rfl
def okT (n t : Int) : D → Bool
  | .int i => decide (0 ≤ i) && decide (i ≤ n - 1) && !decide (i = t)
  | _ => false
/-- an entry of needs of the task t among n -/
def entryL (n t : Int) (ds : List D) : Bool := ds.all (okT n t) && match intsOf ds with
  | some ns => ascD ns
  | none => false
theorem okT_ints {n t : Int} : ∀ {ds : List D}, ds.all (okT n t) = true → ∃ ns : List Int, ds = ns.map D.int
  | [], _ => ⟨[], rfl⟩
  | d :: r, h => by
    rw [List.all_cons, Bool.and_eq_true] at h
    obtain ⟨ns, e⟩ := okT_ints h.2
    cases d <;> first | (exact absurd h.1 Bool.false_ne_true) | skip
    rename_i i
    exact ⟨i :: ns, by rw [e]; rfl⟩
theorem zip_asc : ∀ ns : List Int, ((zipD (ns.map D.int) ((ns.map D.int).drop 1)).map fun d => match d with | .tup [.int a, .int b] => decide (a < b) | _ => false).all id = ascD ns
  | [] => rfl
  | [_] => rfl
  | a :: b :: r => by
    have ih := zip_asc (b :: r)
    simp only [List.map_cons, List.drop_succ_cons, List.drop_zero, zipD, List.zipWith_cons_cons, List.all_cons, id] at ih ⊢
    rw [ih]
    rfl
def entryD (n t : Int) (d : D) : Bool := isListT d && entryL n t (itemsD d)
def sp_is_entry : DSp := sp3 fun a b d m Q _ => ∃ n t, a = .int n ∧ b = .int t ∧ DL.plain d = true ∧ (toP d).hasDict = false ∧ (toP d).depth ≤ 60 ∧ Q (.bl (entryD n t d)) m
section
variable {P : Program} {w : World} {K : PySem.W.Frag} {mg : Str → Option Value} {base : Heap} {Ad : Adr}
set_option maxHeartbeats 4000000 in
theorem ok_is_entry (T : Txt K mg Ad) : FnOk P w K mg base CX0 2 Ad.a_is_entry Ad.d_is_entry ["count", "task", "value"] (spD K sp_is_entry) := by
  refine DL.Fun.okD T.F_is_entry sc_is_entry sp3_len (fun cdv A outer s H E hr => ⟨_, (dss_cons (ds_if (PW.pt (dw_or (dt_not (dt_val (pe_imp (pe_callB call_isi (by rfl) T.m_isinstance (by decide +kernel) (da_cons (dv 2) (da_cons (de_bty (n := "list") (by rfl) T.m_list (by decide +kernel)) da_nil))) (lift_cb (o_isT kf_list))))) (dw_or1 (dt_not (dt_val (pe_imp (pe_callB (cr_all rfl) (by rfl) T.m_all (by decide +kernel) (da_cons (de_lc rfl sc_is_entry.nd (pi_list (dv 2)) io_list (blkOk_by (own := [(("other" : Str), 4)]) (by kernel_rfl)) (GOk.name (by decide)) (fun _ _ _ _ _ => (pg_name (i := 4) sc_is_entry.nd rfl (by first | exact Or.inl rfl | exact Or.inr rfl))) (fun _ _ _ _ _ => dts_nil) (fun _ _ _ _ _ => (de_and (pe_imp (pe_call (ok_is_integer T) (hr.mono (by decide)) (by rfl) T.g_is_integer T.F_is_integer.kp T.b_is_integer .nil passAny (da_cons (dv 4) (da_cons de_int (da_cons (de_op op_sub o_sub (dv 0) de_int) da_nil)))) (lift_call fun _ => .nil)) (de_one (de_cmp (op_neA (hu64 hr)) o_ne (dv 4) (dv 1) (nomark _)))))) da_nil)) (lift_cb o_all))))))) (dss_one (ds_ret de_bl)) dss_nil)
  (dss_one (ds_ret (pe_imp (pe_callB (cr_all rfl) (by rfl) T.m_all (by decide +kernel) (da_cons (de_lc rfl sc_is_entry.nd (pi_zip (by rfl) T.m_zip (da_cons (dv 2) (da_cons (de_slice (mk := false) (dv 2) (do_some de_int) do_none) da_nil))) io_zip (blkOk_by (own := [(("one" : Str), 3), (("other" : Str), 4)]) (by kernel_rfl)) (GOk.tup (GsOk.cons (GOk.name (by decide)) (GsOk.cons (GOk.name (by decide)) GsOk.nil))) (fun _ _ _ _ _ => (pg_tup (n := 2) rfl (pgs_cons (pg_name (i := 3) sc_is_entry.nd rfl (by first | exact Or.inl rfl | exact Or.inr rfl)) (pgs_cons (pg_name (i := 4) sc_is_entry.nd rfl (by first | exact Or.inl rfl | exact Or.inr rfl)) pgs_nil)))) (fun _ _ _ _ _ => dts_nil) (fun _ _ _ _ _ => (de_cmp or_lt o_lt (dv 3) (dv 4) (nomark _)))) da_nil)) (lift_cb o_all))))), ?_⟩)
  rintro _ m Q Ex ⟨p0, p1, p2, rfl, h⟩
  change (_ : TDS) _ [some p0, some p1, some p2, none, none] m
  obtain ⟨n, t, rfl, rfl, hp, hd, hdp, h⟩ := h
  walk_at "s"
  refine ⟨fz_plain hp, ?_⟩
  cases p2 <;> first | (simp only [isListT, Bool.not_false, if_true]; exact gq h) | (simp [DL.plain] at hp; done) | skip
  rename_i ds
  have hpl : ∀ x ∈ ds, DL.plain x = true := by
    rw [DL.plain, plainAll_eq, List.all_eq_true] at hp; exact hp
  simp only [isListT, Bool.not_true, Bool.false_eq_true, if_false]
  refine dlc_map ds (fun x => .bl (okT n t x)) (walks_list fun _ h => ⟨_, rfl, h⟩) (fun x hx m' Qe hq => ?_) (fun hsz => all_map ?_)
  · walk_at "s"
    refine ⟨_, _, _, rfl, 0, n - 1, rfl, rfl, fz_plain (hpl x hx), ?_⟩
    cases x <;> simp only [isIntD, okT] at hq ⊢ <;> walk_at "s" <;> first | exact hq | skip
    rename_i i
    cases e : decide (0 ≤ i) && decide (i ≤ n - 1) <;> simp only [e, Bool.false_and, Bool.true_and, if_true, if_false, Bool.false_eq_true] at hq ⊢
    · exact hq
    · exact hq
  · refine ⟨_, rfl, ?_⟩
    unfold entryD entryL at h
    simp only [isListT, itemsD, Bool.true_and] at h
    cases ha : ds.all (okT n t) with
    | false =>
      rw [ha, Bool.false_and] at h
      exact gq h
    | true =>
      rw [ha, Bool.true_and] at h
      obtain ⟨ns, rfl⟩ := okT_ints ha
      rw [intsOf_map] at h
      simp only [Bool.not_true, Bool.false_eq_true, if_false]
      refine dlc_map _ (fun d => .bl (match d with | .tup [.int a, .int b] => decide (a < b) | _ => false)) (walks_zip (xs := ns.map D.int) (ys := (ns.map D.int).drop 1) fun _ h => ?_) (fun x hx m' Qe hq => ?_) (fun hsz => all_map ?_)
      · walk_at "s"
        rw [cutD_one]
        exact h
      · rw [List.map_drop.symm] at hx
        obtain ⟨a, b, rfl⟩ := mem_zip_ints hx
        walk_at "s"
        exact hq
      · have := zip_asc ns
        rw [List.all_map] at this
        rw [show ((zipD (ns.map D.int) ((ns.map D.int).drop 1)).all fun d => match d with | .tup [.int a, .int b] => decide (a < b) | _ => false) = ascD ns from this]
        exact gq h
end
/-! ### is_needs -/
def entryAt (n : Int) : D → Bool
  | .tup [.int i, e] => entryD n i e
  | _ => false
def needsL (ds : List D) : Bool := (decide (1 ≤ (ds.length : Int)) && decide ((ds.length : Int) ≤ 60)) && (enumD 0 ds).all (entryAt ds.length)
def needsD (d : D) : Bool := isListT d && needsL (itemsD d)
/-- data that may stand in the place of needs -/
structure Good (d : D) : Prop where
  pl : DL.plain d = true
  nd : isListT d = true → (toP d).hasDict = false
  dp : (toP d).depth ≤ 50
theorem mem_enum {ds : List D} {x : D} : ∀ {k : Nat}, x ∈ enumD k ds → ∃ i e, e ∈ ds ∧ x = .tup [.int ((i : Nat) : Int), e] := by
  induction ds with
  | nil => intro k h; cases h
  | cons d r ih =>
    intro k h
    rcases List.mem_cons.mp h with h | h
    · exact ⟨k, d, List.mem_cons_self, h⟩
    · obtain ⟨i, e, h1, h2⟩ := ih h
      exact ⟨i, e, List.mem_cons_of_mem _ h1, h2⟩
theorem depthAll_mem : ∀ {ds : List D} {e : D}, e ∈ ds → (toP e).depth ≤ PyData.depthAll (toPs ds)
  | d :: r, e, h => by
    rw [toPs, PyData.depthAll]
    rcases List.mem_cons.mp h with h | h
    · subst h; exact Nat.le_max_left _ _
    · exact Nat.le_trans (depthAll_mem h) (Nat.le_max_right _ _)
theorem dictAll_mem : ∀ {ds : List D} {e : D}, PyData.hasDictAll (toPs ds) = false → e ∈ ds → (toP e).hasDict = false
  | d :: r, e, g, h => by
    rw [toPs] at g
    have g' : (toP d).hasDict = false ∧ PyData.hasDictAll (toPs r) = false := by simpa [PyData.hasDictAll] using g
    rcases List.mem_cons.mp h with h | h
    · subst h; exact g'.1
    · exact dictAll_mem g'.2 h
structure ItemOk (e : D) : Prop where
  pl : DL.plain e = true
  nd : (toP e).hasDict = false
  dp : (toP e).depth ≤ 50
theorem Good.items {ds : List D} (g : Good (.lst ds)) : ∀ e ∈ ds, ItemOk e := fun e he => by
  have h1 := g.pl
  have h2 := g.nd rfl
  have h3 := g.dp
  rw [DL.plain, plainAll_eq, List.all_eq_true] at h1
  rw [toP] at h2 h3
  have h2' : PyData.hasDictAll (toPs ds) = false := by simpa [PyData.hasDict] using h2
  have h3' : PyData.depthAll (toPs ds) ≤ 49 := by simpa [PyData.depth] using h3
  exact ⟨h1 e he, dictAll_mem h2' he, by have := depthAll_mem he; omega⟩
def sp_is_needs : DSp := sp1 fun d m Q _ => Good d ∧ Q (.bl (needsD d)) m
section
variable {P : Program} {w : World} {K : PySem.W.Frag} {mg : Str → Option Value} {base : Heap} {Ad : Adr}
set_option maxHeartbeats 4000000 in
theorem ok_is_needs (T : Txt K mg Ad) : FnOk P w K mg base CX0 3 Ad.a_is_needs Ad.d_is_needs ["value"] (spD K sp_is_needs) := by
  refine DL.Fun.okD T.F_is_needs sc_is_needs sp1_len (fun cdv A outer s H E hr => ⟨_, (dss_cons (ds_if (PW.pt (dw_or (dt_not (dt_val (pe_imp (pe_callB call_isi (by rfl) T.m_isinstance (by decide +kernel) (da_cons (dv 0) (da_cons (de_bty (n := "list") (by rfl) T.m_list (by decide +kernel)) da_nil))) (lift_cb (o_isT kf_list))))) (dw_or1 (dt_not (dt_chain or_le or_le o_le o_le de_int (pe_imp (pe_callB c_len (by rfl) T.m_len (by decide +kernel) (da_cons (dv 0) da_nil)) (lift_cb o_len)) (de_gint (by rfl) T.c_MOST_TASKS)))))) (dss_one (ds_ret de_bl)) dss_nil)
  (dss_one (ds_ret (pe_imp (pe_callB (cr_all rfl) (by rfl) T.m_all (by decide +kernel) (da_cons (de_lc rfl sc_is_needs.nd (pi_enum (by rfl) T.m_enumerate (da_cons (dv 0) da_nil)) io_enum (blkOk_by (own := [(("task" : Str), 1), (("entry" : Str), 2)]) (by kernel_rfl)) (GOk.tup (GsOk.cons (GOk.name (by decide)) (GsOk.cons (GOk.name (by decide)) GsOk.nil))) (fun _ _ _ _ _ => (pg_tup (n := 2) rfl (pgs_cons (pg_name (i := 1) sc_is_needs.nd rfl (by first | exact Or.inl rfl | exact Or.inr rfl)) (pgs_cons (pg_name (i := 2) sc_is_needs.nd rfl (by first | exact Or.inl rfl | exact Or.inr rfl)) pgs_nil)))) (fun _ _ _ _ _ => dts_nil) (fun _ _ _ _ _ => (pe_imp (pe_call (ok_is_entry T) (hr.mono (by decide)) (by rfl) T.g_is_entry T.F_is_entry.kp T.b_is_entry .nil passAny (da_cons (pe_imp (pe_callB c_len (by rfl) T.m_len (by decide +kernel) (da_cons (dv 0) da_nil)) (lift_cb o_len)) (da_cons (dv 1) (da_cons (dv 2) da_nil)))) (lift_call fun _ => .nil)))) da_nil)) (lift_cb o_all))))), ?_⟩)
  rintro _ m Q Ex ⟨p0, rfl, h⟩
  change (_ : TDS) _ [some p0, none, none] m
  obtain ⟨g, h⟩ := h
  walk_at "s"
  refine ⟨fz_plain g.pl, ?_⟩
  cases p0 <;> first | (simp only [isListT, Bool.not_false, if_true]; exact gq h) | (have := g.pl; simp [DL.plain] at this; done) | skip
  rename_i ds
  simp only [isListT, Bool.not_true, Bool.false_eq_true, if_false]
  have h : Q (.bl (needsL ds)) m := h
  unfold needsL at h
  walk_at "s"
  cases e1 : decide (1 ≤ (ds.length : Int)) <;> simp only [e1, Bool.false_and, Bool.true_and, if_true, if_false, Bool.false_eq_true, Bool.not_false] at h ⊢
  · exact gq h
  cases e2 : decide ((ds.length : Int) ≤ 60) <;> simp only [e2, Bool.false_and, Bool.true_and, if_true, if_false, Bool.false_eq_true, Bool.not_false, Bool.not_true] at h ⊢
  · exact gq h
  refine dlc_map _ (fun x => .bl (entryAt ds.length x)) (walks_enum (xs := ds) fun _ h => ?_) (fun x hx m' Qe hq => ?_) (fun hsz => all_map (gq h))
  · walk_at "s"
    exact h
  · obtain ⟨i, e, he, rfl⟩ := mem_enum hx
    walk_at "s"
    have ok := g.items e he
    exact ⟨_, _, _, rfl, _, _, rfl, rfl, ok.pl, ok.nd, by have := ok.dp; omega, hq⟩
end
/-! ### _law_source -/
/-- the store's address s holds a source of draws; at most N of them were mixed -/
def Src (m : Mu) (s : Addr) (N : Int) : Prop := ∃ a b c : Int, m s = some (.lst [.int a, .int b, .int c]) ∧ 0 ≤ a ∧ 0 ≤ b ∧ b < 10 ^ 42 ∧ 0 ≤ c ∧ c ≤ N
theorem Src.mono {m : Mu} {s : Addr} {N N' : Int} (h : Src m s N) (l : N ≤ N') : Src m s N' := let ⟨a, b, c, h0, h1, h2, h3, h4, h5⟩ := h; ⟨a, b, c, h0, h1, h2, h3, h4, Int.le_trans h5 l⟩
/-- all but s is as it was -/
def But (s : Addr) (m m' : Mu) : Prop := ∀ b, b ≠ s → m' b = m b
theorem But.refl {s : Addr} {m : Mu} : But s m m := fun _ _ => rfl
theorem But.trans {s : Addr} {m m1 m2 : Mu} (a : But s m m1) (b : But s m1 m2) : But s m m2 := fun c h => (b c h).trans (a c h)
theorem But.upd {s : Addr} {m : Mu} {o : MO} : But s m (updM m s o) := fun _ h => updM_ne h
def sp_law_source : DSp := sp2 fun x y m Q _ => ∃ cell k : Int, x = .int cell ∧ y = .int k ∧ 0 ≤ k ∧ k ≤ 1000 ∧ ∀ p m', m p = none → But p m m' → Src m' p 0 → Q (.ref p) m'
section
variable {P : Program} {w : World} {K : PySem.W.Frag} {mg : Str → Option Value} {base : Heap} {Ad : Adr}
set_option maxHeartbeats 4000000 in
theorem ok_law_source (T : Txt K mg Ad) : FnOk P w K mg base CX0 1 Ad.a__law_source Ad.d__law_source ["_law_cell", "_law_k"] (spD K sp_law_source) := by
  refine DL.Fun.okD T.F__law_source sc_law_source sp2_len (fun cdv A outer s H E hr => ⟨_, (dss_one (ds_ret (de_lstM (da_cons (pe_imp (pe_callB (callOr (call_max2 rfl) (cr_max rfl)) (by rfl) T.m_max (by decide +kernel) (da_cons de_int (da_cons (de_op op_sub o_sub (dv 0) (de_op op_powD o_pow de_int de_int)) da_nil))) (lift_cb o_max)) (da_cons (de_op or_add (o_add (mk := false)) (de_op or_mul (o_mul (mk := false)) (de_op op_mod o_mod (dv 0) (de_op or_add (o_add (mk := false)) (de_op op_powD o_pow de_int de_int) de_int)) de_int) (dv 1)) (da_cons de_int da_nil)))))), ?_⟩)
  rintro _ m Q Ex ⟨p0, p1, rfl, h⟩
  change (_ : TDS) _ [some p0, some p1] m
  obtain ⟨cell, k, rfl, rfl, hk0, hk1, h⟩ := h
  walk_at "s"
  refine ⟨cpow (by decide) (by decide +kernel) (by decide) (by decide), cpow (by decide) (by decide +kernel) (by decide) (by decide), by decide +kernel, cmulR (by decide) (by decide), by decide, fun p n => gq ?_⟩
  have e1 := Int.emod_nonneg cell (show (10 ^ 38 + 133 : Int) ≠ 0 by decide +kernel)
  have e2 := Int.emod_lt_of_pos cell (show (0 : Int) < 10 ^ 38 + 133 by decide +kernel)
  refine h p _ n But.upd ⟨_, _, _, updM_same, ?_, by omega, ?_, by omega, by omega⟩
  · split <;> omega
  · have : (10 ^ 38 + 133 : Int) * 71 + 1000 < 10 ^ 42 := by decide +kernel
    omega
end
/-! ### _law_draw -/
def sp_law_draw : DSp := sp2 fun x y m Q _ => ∃ (s : Addr) (n N : Int), x = .ref s ∧ y = .int n ∧ 1 ≤ n ∧ n < 2 ^ 62 ∧ N < 10 ^ 9 ∧ Src m s N ∧ ∀ d m', 0 ≤ d → d < n → But s m m' → Src m' s (N + 1) → Q (.int d) m'
section
variable {P : Program} {w : World} {K : PySem.W.Frag} {mg : Str → Option Value} {base : Heap} {Ad : Adr}
set_option maxHeartbeats 4000000 in
theorem ok_law_draw (T : Txt K mg Ad) : FnOk P w K mg base CX0 1 Ad.a__law_draw Ad.d__law_draw ["_law_source_here", "_law_count"] (spD K sp_law_draw) := by
  refine DL.Fun.okD T.F__law_draw sc_law_draw sp2_len (fun cdv A outer s H E hr => ⟨_, (dss_cons (ds_if (dt_cmp or_gt o_gt (de_ix (dv 0) de_int) de_int (nomark _)) (dss_cons (ds_set (i := 3) sc_law_draw.nd rfl (by first | exact Or.inl rfl | exact Or.inr rfl) (de_op op_mod o_mod (de_ix (dv 0) de_int) (dv 1)))
  (dss_cons (ds_asg (de_op op_fdivW o_div (de_ix (dv 0) de_int) (dv 1)) (dg_sub (pg_sub (dv 0) de_int set_list)))
  (dss_one (ds_ret (dv 3))))) dss_nil)
  (dss_cons (ds_asg (de_op or_add (o_add (mk := false)) (de_ix (dv 0) de_int) de_int) (dg_sub (pg_sub (dv 0) de_int set_list)))
  (dss_cons (ds_set (i := 2) sc_law_draw.nd rfl (by first | exact Or.inl rfl | exact Or.inr rfl) (de_op op_mod o_mod (de_op op_powD o_pow (de_op or_add (o_add (mk := false)) (de_ix (dv 0) de_int) (de_op or_mul (o_mul (mk := false)) de_int (de_ix (dv 0) de_int))) de_int) (de_op or_add (o_add (mk := false)) (de_op op_powD o_pow de_int de_int) de_int)))
  (dss_cons (ds_set (i := 2) sc_law_draw.nd rfl (by first | exact Or.inl rfl | exact Or.inr rfl) (de_op op_mod o_mod (de_op op_powD o_pow (de_op or_add (o_add (mk := false)) (dv 2) (de_op or_mul (o_mul (mk := false)) de_int (de_ix (dv 0) de_int))) de_int) (de_op or_add (o_add (mk := false)) (de_op op_powD o_pow de_int de_int) de_int)))
  (dss_one (ds_ret (de_op op_mod o_mod (de_op op_fdivW o_div (dv 2) de_int) (dv 1)))))))), ?_⟩)
  rintro _ m Q Ex ⟨p0, p1, rfl, h⟩
  change (_ : TDS) _ [some p0, some p1, none, none] m
  obtain ⟨s, n, N, rfl, rfl, hn1, hn2, hN, ⟨a, b, c, hs, ha, hb0, hb1, hc0, hc1⟩, h⟩ := h
  have ls := lsD_ref hs
  walk_at "s"
  simp only [ls, hs, Option.some.injEq, exists_eq_left', at0, at2]
  walk_at "s"
  have p36 : (0 : Int) < 10 ^ 36 + 67 := by decide +kernel
  have p39 : (0 : Int) < 10 ^ 39 + 3 := by decide +kernel
  refine ite2 (fun e => ?_) (fun e => ?_)
  · have e := of_decide_eq_true e
    refine ⟨by omega, cdiv (by omega) (by have : (2 : Int) ^ 62 < 2 ^ 300 := by decide +kernel
                                          omega), gq ?_⟩
    refine h _ _ (Int.emod_nonneg _ (by omega)) (Int.emod_lt_of_pos _ (by omega)) But.upd ⟨_, _, _, updM_same, Int.ediv_nonneg ha (by omega), hb0, hb1, hc0, by omega⟩
  · have hc2 : c + 1 ≤ 10 ^ 9 := by omega
    generalize hk : c + 1 = k at *
    have big : (10 ^ 36 + 67 : Int) < 10 ^ 42 := by decide +kernel
    have e1 := Int.emod_nonneg ((b + 700074 * k) ^ 3) (show (10 ^ 36 + 67 : Int) ≠ 0 by decide +kernel)
    have e2 := Int.emod_lt_of_pos ((b + 700074 * k) ^ 3) p36
    generalize (b + 700074 * k) ^ 3 % (10 ^ 36 + 67) = u at *
    have lim : (10 : Int) ^ 42 + 700074 * 10 ^ 9 < 10 ^ 300 := by decide +kernel
    refine ⟨cmulL (by decide) (by decide), cpow (by omega) (by omega) (by decide) (by decide), cpow (by decide) (by decide +kernel) (by decide) (by decide), p36, cmulL (by decide) (by decide),
      cpow (by omega) (by omega) (by decide) (by decide), cpow (by decide) (by decide +kernel) (by decide) (by decide), p39, cdiv (by decide) (by decide +kernel), by omega, gq ?_⟩
    exact h _ _ (Int.emod_nonneg _ (by omega)) (Int.emod_lt_of_pos _ (by omega)) But.upd ⟨_, _, _, updM_same, ha, hb0, hb1, by omega, by omega⟩
end
/-! ### _law_listed -/
def okRow (B : Nat) (ns : List Int) : Prop := ns.length ≤ B ∧ ∀ x ∈ ns, 0 ≤ x ∧ x ≤ 100
/-- at p stands a list of lists of small numbers -/
def RowsAt (m : Mu) (p : Addr) (rs : List Addr) (B : Nat) : Prop := m p = some (.lst (rs.map D.ref)) ∧ ∀ r ∈ rs, ∃ ns : List Int, m r = some (.lst (ns.map D.int)) ∧ okRow B ns
/-- .. that are entries of needs -/
def RowsV (m : Mu) (rs : List Addr) (n : Nat) : Prop := ∀ (k : Nat) (r : Addr), rs[k]? = some r → ∃ ns : List Int, m r = some (.lst (ns.map D.int)) ∧ ascD ns = true ∧ ∀ x ∈ ns, 0 ≤ x ∧ x < n ∧ x ≠ k
def okI (B n k : Nat) (ns : List Int) : Prop := ns.length ≤ B ∧ ns.Nodup ∧ ∀ x ∈ ns, 0 ≤ x ∧ x < n ∧ x ≠ k
theorem asc_of : ∀ {ns : List Int}, ns.Pairwise (· ≤ ·) → ns.Nodup → ascD ns = true
  | [], _, _ => rfl
  | [_], _, _ => rfl
  | a :: b :: r, h, g => by
    have h1 := (List.pairwise_cons.mp h).1 b List.mem_cons_self
    have g1 : a ≠ b := fun e => (List.nodup_cons.mp g).1 (by rw [e]; exact List.mem_cons_self)
    rw [ascD, asc_of (List.pairwise_cons.mp h).2 (List.nodup_cons.mp g).2, decide_eq_true (by omega)]
    rfl
theorem sort_asc {ns : List Int} (g : ns.Nodup) : ascD (sortI ns) = true := asc_of (sortI_sorted ns) ((sortI_perm ns).nodup_iff.mpr g)
def pairD (q : Int × Int) : D := .tup [.int q.1, .int q.2]
def okPair (n : Nat) (q : Int × Int) : Prop := 0 ≤ q.1 ∧ q.1 < n ∧ 0 ≤ q.2 ∧ q.2 < n ∧ q.1 ≠ q.2
def sp_law_listed : DSp := sp2 fun x y m Q _ => ∃ (n : Nat) (prs : List (Int × Int)), x = .int n ∧ 1 ≤ n ∧ n ≤ 60 ∧ lsD m y = some (prs.map pairD) ∧ prs.length ≤ 200 ∧ (∀ q ∈ prs, okPair n q) ∧
  ∀ p rs m', Old m m' → m p = none → (∀ r ∈ rs, m r = none) → rs.length = n → RowsAt m' p rs 200 → RowsV m' rs n → Q (.ref p) m'
section
variable {P : Program} {w : World} {K : PySem.W.Frag} {mg : Str → Option Value} {base : Heap} {Ad : Adr}
set_option maxHeartbeats 4000000 in
theorem ok_law_listed (T : Txt K mg Ad) : FnOk P w K mg base CX0 1 Ad.a__law_listed Ad.d__law_listed ["_law_size", "_law_pairs"] (spD K sp_law_listed) := by
  refine DL.Fun.okD T.F__law_listed sc_law_listed sp2_len (fun cdv A outer s H E hr => ⟨_, (dss_cons (ds_setLcM (i := 2) rfl sc_law_listed.nd rfl rfl (sw_true rfl rfl rfl (by decide +kernel)) (pi_range1 (by rfl) T.m_range (da_cons (dv 0) da_nil)) io_r1 (blkOk_by (own := [(("_law_task" : Str), 3)]) (by kernel_rfl)) (GOk.name (by decide)) (fun _ _ _ _ _ => (pg_name (i := 3) sc_law_listed.nd rfl (by first | exact Or.inl rfl | exact Or.inr rfl))) (fun _ _ _ _ _ => dts_nil) (fun _ _ _ _ _ => (de_lstM da_nil)))
  (dss_cons (ds_for [3, 4] PassesOwn.never rfl (pi_list (dv 1)) io_list (pg_tup (n := 2) rfl (pgs_cons (pg_name (i := 3) sc_law_listed.nd rfl (by first | exact Or.inl rfl | exact Or.inr rfl)) (pgs_cons (pg_name (i := 4) sc_law_listed.nd rfl (by first | exact Or.inl rfl | exact Or.inr rfl)) pgs_nil))) (GOk.tup (GsOk.cons (GOk.name (by decide)) (GsOk.cons (GOk.name (by decide)) GsOk.nil)))
  (dss_one (ds_if (dt_cmp (op_notInAll (hu65 hr)) o_inL (dv 4) (de_ix (dv 2) (dv 3)) (by rfl)) (dss_one (ds_expr (pe_imp (pe_bm PySem.F.plainAttrs_list PySem.F.slot_list_append PySem.F.type_list_append mt_append (de_ix (dv 2) (dv 3)) (da_cons (dv 4) da_nil)) (lift_bm tyL_ok o_append)))) dss_nil)))
  (dss_one (ds_ret (de_lcM rfl sc_law_listed.nd (pi_list (dv 2)) io_list (blkOk_by (own := [(("_law_row" : Str), 5)]) (by kernel_rfl)) (GOk.name (by decide)) (fun _ _ _ _ _ => (pg_name (i := 5) sc_law_listed.nd rfl (by first | exact Or.inl rfl | exact Or.inr rfl))) (fun _ _ _ _ _ => dts_nil) (fun _ _ _ _ _ => (pe_imp (pe_callB c_sorted (by rfl) T.m_sorted (by decide +kernel) (da_cons (dv 5) da_nil)) (lift_cb (o_sorted (mk := true)))))))))), ?_⟩)
  rintro _ m Q Ex ⟨p0, p1, rfl, h⟩
  change (_ : TDS) _ [some p0, some p1, none, none, none, none] m
  obtain ⟨n, prs, rfl, h1, h2, hy, hp, hb, h⟩ := h
  walk_at "t"
  refine dlcM_inv (ok := fun _ => True) (rangeD 0 (n : Int).toNat) (fun p xs acc m' => ∃ rs : List Addr, acc = rs.map D.ref ∧ m' p = some (.lst acc) ∧ Old m m' ∧ m p = none ∧ acc.length + xs.length = n ∧ rs.Nodup ∧ ∀ r ∈ rs, m r = none ∧ r ≠ p ∧ m' r = some (.lst []))
    (walks_range (by omega) (by omega) fun _ h => ?_).k (fun _ p hp0 => ?_) (fun _ _ _ _ _ => trivial) (fun p xs acc m' i => ?_) (fun p x xs acc m' G i g => ?_) (fun p acc m' hp0 i => ?_)
  · walk_at "t"
    exact h
  · exact ⟨[], rfl, updM_same, Old.refl.new hp0, hp0, by rw [range_len]; simp, .nil, fun r hr => nomatch hr⟩
  · obtain ⟨rs, h1, h2, _⟩ := i
    exact h2
  · obtain ⟨rs, rfl, e, o, n0, l, nd, hr⟩ := i
    walk_at "t"
    intro q hq
    have hqp : p ≠ q := fun z => by rw [z, hq] at e; cases e
    walk_at "t"
    rw [List.length_map] at l ⊢
    rw [List.length_cons] at l
    have hne : ∀ r ∈ rs, r ≠ q := fun r hr' z => by
      have := (hr r hr').2.2
      rw [z, hq] at this; cases this
    refine ⟨(updM_ne hqp).trans e, by omega, g _ _ ⟨rs ++ [q], by rw [List.map_append]; rfl, updM_same, (o.new (o.fresh hq)).new n0, n0, by simp; omega, ?_, fun r hr' => ?_⟩⟩
    · exact List.nodup_append.mpr ⟨nd, by simp, fun a ha b hb => by rw [List.mem_singleton.mp hb]; exact hne a ha⟩
    rcases List.mem_append.mp hr' with z | z
    · obtain ⟨a1, a2, a3⟩ := hr r z
      exact ⟨a1, a2, (updM_ne a2).trans ((updM_ne (hne r z)).trans a3)⟩
    · cases List.mem_singleton.mp z
      exact ⟨o.fresh hq, hqp.symm, (updM_ne hqp.symm).trans updM_same⟩
  · obtain ⟨rs, rfl, e, o, n0, l, nd, hr⟩ := i
    rw [List.length_map, List.length_nil] at l
    have hpr : ∀ r ∈ rs, m r = none ∧ r ≠ p := fun r h => ⟨(hr r h).1, (hr r h).2.1⟩
    walk_at "t"
    refine dfor_inv (ok := fun m' => lsD m' p1 = some (prs.map pairD)) (prs.map pairD) (fun i tau m' => ∃ a b, tau = [some (.int n), some p1, some (.ref p), a, b, none] ∧ i ≤ prs.length ∧ m' p = some (.lst (rs.map D.ref)) ∧ Old m m' ∧ ∀ (k : Nat) r, rs[k]? = some r → ∃ ns : List Int, m' r = some (.lst (ns.map D.int)) ∧ okI i n k ns)
      (walksK_list (o.ls hy) fun _ h => ⟨_, rfl, h⟩) (fun _ => ⟨_, _, rfl, Nat.zero_le _, e, o, fun k r h => ?_⟩) (fun i tau m' ⟨_, _, _, _, _, o', _⟩ => o'.ls hy) (fun i x tau m' hx i' => ?_) (fun tau m' i' => ?_)
    · obtain ⟨a1, a2, a3⟩ := hr r (List.mem_of_getElem? h)
      exact ⟨[], a3, Nat.le_refl _, .nil, fun x h => nomatch h⟩
    · obtain ⟨a, b, rfl, hi, e', o', hr'⟩ := i'
      rw [List.getElem?_map] at hx
      cases hx' : prs[i]? with
      | none => rw [hx'] at hx; cases hx
      | some z =>
      rw [hx'] at hx; cases hx
      obtain ⟨b1, b2, b3, b4, b5⟩ := hb z (List.mem_of_getElem? hx')
      have hi' := (List.getElem?_eq_some_iff.mp hx').1
      obtain ⟨j, hj⟩ := Int.eq_ofNat_of_zero_le b1
      have hjn : j < rs.length := by omega
      obtain ⟨ns, c3, c4⟩ := hr' j rs[j] (List.getElem?_eq_getElem hjn)
      obtain ⟨c1, c2⟩ := hpr rs[j] (List.getElem_mem hjn)
      have at1 : atI (rs.map D.ref) z.1 = some (.ref rs[j]) := by rw [hj]; exact atI_nat (by rw [List.getElem?_map, List.getElem?_eq_getElem hjn]; rfl)
      unfold pairD
      exists e', at1
      refine inL_ints (lsD_ref c3) ?_
      walk_at "t"
      refine ifN (fun e2 => ?_) fun _ => ?_
      · exists e', at1, c3, List.length_map
        have := c4.1
        refine ⟨by omega, _, _, rfl, hi', (updM_ne c2.symm).trans e', o'.new c1, fun k r hr => ?_⟩
        obtain ⟨ks, a3, a4⟩ := hr' k r hr
        by_cases hrr : r = rs[j]
        · have hkj : k = j := by
            obtain ⟨hk, ek⟩ := List.getElem?_eq_some_iff.mp hr
            exact (List.getElem_inj nd).mp (ek.trans hrr)
          subst hkj
          rw [hrr]
          refine ⟨ns ++ [z.2], by rw [updM_same, List.map_append]; rfl, by rw [List.length_append]; exact Nat.succ_le_succ c4.1, List.nodup_append.mpr ⟨c4.2.1, by simp, fun a ha b hb => by rw [List.mem_singleton.mp hb]; exact fun z => e2 (z ▸ ha)⟩, fun x hx => ?_⟩
          rcases List.mem_append.mp hx with hx | hx
          · exact c4.2.2 x hx
          · cases List.mem_singleton.mp hx
            omega
        · exact ⟨ks, (updM_ne hrr).trans a3, Nat.le_succ_of_le a4.1, a4.2⟩
      · walk_at "t"
        exact ⟨_, _, rfl, hi', e', o', fun k r hr => let ⟨ks, a3, a4⟩ := hr' k r hr; ⟨ks, a3, Nat.le_succ_of_le a4.1, a4.2⟩⟩
    · obtain ⟨a, b, rfl, hi, e', o', hr'⟩ := i'
      walk_at "t"
      refine dlcM_inv (ok := fun m2 => lsD m2 (.ref p) = some (rs.map D.ref)) (rs.map D.ref) (fun q xs acc m2 => ∃ ss : List Addr, acc = ss.map D.ref ∧ xs = (rs.drop ss.length).map D.ref ∧ m2 q = some (.lst acc) ∧ Old m' m2 ∧ m' q = none ∧ ss.length ≤ n ∧ ∀ (k : Nat) r, ss[k]? = some r → m' r = none ∧ r ≠ q ∧ ∃ ns : List Int, m2 r = some (.lst (ns.map D.int)) ∧ okI 200 n k ns ∧ ascD ns = true)
        (walksK_list (lsD_ref e') fun _ h => ⟨_, rfl, h⟩) (fun _ q hq => ?_) (fun q xs acc m2 ⟨_, _, _, _, o2, _⟩ => lsD_ref (o2 _ _ e')) (fun q xs acc m2 ⟨_, _, _, e2, _⟩ => e2) (fun q x xs acc m2 G i g => ?_) (fun q acc m2 hq0 i => gq ?_)
      · exact ⟨[], rfl, rfl, updM_same, Old.refl.new hq, hq, Nat.zero_le _, fun k r hr => by simp at hr⟩
      · obtain ⟨ss, rfl, e1, e2, o2, nq, l2, hss⟩ := i
        have hlt : ss.length < rs.length := by
          rcases Nat.lt_or_ge ss.length rs.length with z | z
          · exact z
          · rw [List.drop_eq_nil_of_le z] at e1; cases e1
        rw [List.drop_eq_getElem_cons hlt] at e1
        cases e1
        obtain ⟨ns, a3, a4⟩ := hr' ss.length _ (List.getElem?_eq_getElem hlt)
        have a3' := o2 _ _ a3
        walk_at "t"
        refine ⟨_, rfl, .inl ⟨ns, lsD_ref a3', ?_⟩⟩
        walk_at "t"
        intro u hu
        have hqu : q ≠ u := fun z => by rw [z, hu] at e2; cases e2
        walk_at "t"
        refine ⟨(updM_ne hqu).trans e2, by rw [List.length_map]; omega, g _ _ ⟨ss ++ [u], by rw [List.map_append]; rfl, by rw [List.length_append]; rfl, updM_same, (o2.new (o2.fresh hu)).new nq, nq, by rw [List.length_append, List.length_singleton]; omega, fun k r hr => ?_⟩⟩
        rw [List.getElem?_append] at hr
        split at hr
        · obtain ⟨b1, b2, ks, b3, b4⟩ := hss k r hr
          have : r ≠ u := fun z => by rw [z, hu] at b3; cases b3
          exact ⟨b1, b2, ks, (updM_ne b2).trans ((updM_ne this).trans b3), b4⟩
        · rename_i hk
          rw [List.getElem?_singleton] at hr
          split at hr
          · cases hr
            have : k = ss.length := by omega
            subst this
            refine ⟨o2.fresh hu, hqu.symm, sortI ns, (updM_ne hqu.symm).trans updM_same, ⟨?_, (sortI_perm ns).nodup_iff.mpr a4.2.1, fun x hx => a4.2.2 x ((sortI_perm ns).mem_iff.mp hx)⟩, sort_asc a4.2.1⟩
            rw [(sortI_perm ns).length_eq]
            have := a4.1
            rw [List.length_map] at this
            omega
          · cases hr
      · obtain ⟨ss, rfl, e1, e2, o2, nq, l2, hss⟩ := i
        have hge : rs.length ≤ ss.length := by
          rcases Nat.lt_or_ge ss.length rs.length with z | z
          · rw [List.drop_eq_getElem_cons z] at e1; cases e1
          · exact z
        have hss' : ∀ r ∈ ss, ∃ k : Nat, ss[k]? = some r := fun r hr => List.mem_iff_getElem?.mp hr
        refine h q ss m2 (o'.trans o2) (o'.fresh nq) (fun r hr => ?_) (by omega) ⟨e2, fun r hr => ?_⟩ (fun k r hr => ?_)
        · obtain ⟨k, hk⟩ := hss' r hr
          exact o'.fresh (hss k r hk).1
        · obtain ⟨k, hk⟩ := hss' r hr
          obtain ⟨_, _, ns, b3, b4, _⟩ := hss k r hk
          exact ⟨ns, b3, b4.1, fun x hx => ⟨(b4.2.2 x hx).1, by have := (b4.2.2 x hx).2.1; omega⟩⟩
        · obtain ⟨_, _, ns, b3, b4, b5⟩ := hss k r hr
          exact ⟨ns, b3, b5, b4.2.2⟩
end
/-! ### _law_needs -/
def OldBut (s : Addr) (m m' : Mu) : Prop := ∀ b o, b ≠ s → m b = some o → m' b = some o
theorem OldBut.of_but {s : Addr} {m m' : Mu} (h : But s m m') : OldBut s m m' := fun b o hb e => (h b hb).trans e
theorem OldBut.of_old {s : Addr} {m m' : Mu} (h : Old m m') : OldBut s m m' := fun b o _ e => h b o e
theorem OldBut.trans {s : Addr} {m m1 m2 : Mu} (a : OldBut s m m1) (b : OldBut s m1 m2) : OldBut s m m2 := fun c o hc e => b c o hc (a c o hc e)
theorem OldBut.fresh {s : Addr} {m m' : Mu} {p : Addr} {N : Int} (a : OldBut s m m') (hs : Src m' s N) (n : m' p = none) : m p = none := by
  cases e : m p with
  | none => rfl
  | some o =>
    have : p ≠ s := fun z => by obtain ⟨_, _, _, h, _⟩ := hs; rw [z, h] at n; cases n
    rw [a p o this e] at n; cases n
theorem OldBut.new {s : Addr} {m m' : Mu} {p : Addr} {o : MO} (a : OldBut s m m') (n : m p = none) : OldBut s m (updM m' p o) := fun b u hb h => by
  have : b ≠ p := fun e => by rw [e, n] at h; cases h
  rw [updM_ne this]; exact a b u hb h
theorem Src.ne {m : Mu} {s q : Addr} {N : Int} (h : Src m s N) (n : m q = none) : q ≠ s := fun z => by obtain ⟨_, _, _, h, _⟩ := h; rw [z, h] at n; cases n
theorem draw_ok {m : Mu} {s : Addr} {n N : Int} {Q : DQ} {Ex : DX} (h1 : Src m s N) (h2 : N < 10 ^ 9) (h3 : 1 ≤ n) (h4 : n < 2 ^ 62) (h : ∀ d m', 0 ≤ d → d < n → But s m m' → Src m' s (N + 1) → Q (.int d) m') : sp_law_draw [.ref s, .int n] m Q Ex :=
  ⟨_, _, rfl, s, n, N, rfl, rfl, h3, h4, h2, h1, h⟩
theorem Src.frame {m m' : Mu} {s : Addr} {N : Int} (h : Src m s N) (e : m' s = m s) : Src m' s N := let ⟨a, b, c, h0, r⟩ := h; ⟨a, b, c, e.trans h0, r⟩
def sp_law_needs : DSp := sp2 fun x y m Q _ => ∃ (s : Addr) (most N : Int), x = .ref s ∧ y = .int most ∧ 1 ≤ most ∧ most ≤ 60 ∧ N ≤ 10 ^ 6 ∧ Src m s N ∧
  ∀ p rs m', Src m' s (N + 1000) → OldBut s m m' → m p = none → (∀ r ∈ rs, m r = none) → 1 ≤ rs.length → rs.length ≤ 60 → RowsAt m' p rs 200 → RowsV m' rs rs.length → Q (.ref p) m'
theorem pick3 {P : D → Prop} {a b c : D} {i : Int} (h0 : 0 ≤ i) (h1 : i < 3) (ha : P a) (hb : P b) (hc : P c) : ∃ x, atI [a, b, c] i = some x ∧ P x := by
  have : i = 0 ∨ i = 1 ∨ i = 2 := by omega
  rcases this with rfl | rfl | rfl
  · exact ⟨a, rfl, ha⟩
  · exact ⟨b, rfl, hb⟩
  · exact ⟨c, rfl, hc⟩
theorem pick4 {P : D → Prop} {a b c d : D} {i : Int} (h0 : 0 ≤ i) (h1 : i < 4) (ha : P a) (hb : P b) (hc : P c) (hd : P d) : ∃ x, atI [a, b, c, d] i = some x ∧ P x := by
  have : i = 0 ∨ i = 1 ∨ i = 2 ∨ i = 3 := by omega
  rcases this with rfl | rfl | rfl | rfl
  · exact ⟨a, rfl, ha⟩
  · exact ⟨b, rfl, hb⟩
  · exact ⟨c, rfl, hc⟩
  · exact ⟨d, rfl, hd⟩
theorem append_ref {m : Mu} {p : Addr} {ds : List D} {e : D} {Q : DQ} (h : m p = some (.lst ds)) (l : ds.length < sizeLine) (q : Q .non (updM m p (.lst (ds ++ [e])))) : rdAppend (.ref p) [e] m Q := ⟨p, ds, e, rfl, rfl, h, l, q⟩
section
variable {P : Program} {w : World} {K : PySem.W.Frag} {mg : Str → Option Value} {base : Heap} {Ad : Adr}
set_option maxHeartbeats 4000000 in
theorem ok_law_needs (T : Txt K mg Ad) : FnOk P w K mg base CX0 2 Ad.a__law_needs Ad.d__law_needs ["_law_source_here", "_law_most"] (spD K sp_law_needs) := by
  refine DL.Fun.okD T.F__law_needs sc_law_needs sp2_len (fun cdv A outer s H E hr => ⟨_, (dss_cons (ds_set (i := 2) sc_law_needs.nd rfl (by first | exact Or.inl rfl | exact Or.inr rfl) (de_op or_add (o_add (mk := false)) de_int (de_ix (de_lst (da_cons (pe_imp (pe_call (ok_law_draw T) (hr.mono (by decide)) (by rfl) T.g__law_draw T.F__law_draw.kp T.b__law_draw .nil passAny (da_cons (dv 0) (da_cons (dv 1) da_nil))) (lift_call fun _ => .nil)) (da_cons (pe_imp (pe_call (ok_law_draw T) (hr.mono (by decide)) (by rfl) T.g__law_draw T.F__law_draw.kp T.b__law_draw .nil passAny (da_cons (dv 0) (da_cons (pe_imp (pe_callB (callOr (call_min2 rfl) (cr_min rfl)) (by rfl) T.m_min (by decide +kernel) (da_cons (dv 1) (da_cons de_int da_nil))) (lift_cb o_min)) da_nil))) (lift_call fun _ => .nil)) (da_cons (de_op op_sub o_sub (dv 1) de_int) da_nil)))) (pe_imp (pe_call (ok_law_draw T) (hr.mono (by decide)) (by rfl) T.g__law_draw T.F__law_draw.kp T.b__law_draw .nil passAny (da_cons (dv 0) (da_cons de_int da_nil))) (lift_call fun _ => .nil)))))
  (dss_cons (ps_imp (ps_par (i := 5) (j := 6) rfl sc_law_needs.nd rfl rfl (by decide) rfl rfl (da_cons (pe_imp (pe_call (ok_law_draw T) (hr.mono (by decide)) (by rfl) T.g__law_draw T.F__law_draw.kp T.b__law_draw .nil passAny (da_cons (dv 0) (da_cons de_int da_nil))) (lift_call fun _ => .nil)) (da_cons (de_lstM da_nil) da_nil)) (by rfl)) lift_par)
  (dss_cons (ds_if (dt_cmp (op_eqA (hu64 hr)) o_eq (dv 5) de_int (nomark _)) (dss_cons (ds_setLcM (i := 6) rfl sc_law_needs.nd rfl rfl (sw_true rfl rfl rfl (by decide +kernel)) (pi_range1 (by rfl) T.m_range (da_cons (de_op op_sub o_sub (dv 2) de_int) da_nil)) io_r1 (blkOk_by (own := [(("_law_task" : Str), 9)]) (by kernel_rfl)) (GOk.name (by decide)) (fun _ _ _ _ _ => (pg_name (i := 9) sc_law_needs.nd rfl (by first | exact Or.inl rfl | exact Or.inr rfl))) (fun _ _ _ _ _ => dts_nil) (fun _ _ _ _ _ => (de_tup (da_cons (dv 9) (da_cons (de_op or_add (o_add (mk := false)) (dv 9) de_int) da_nil)))))
  (dss_cons (ds_if (PW.pt (dw_and (dt_cmp or_gt o_gt (dv 2) de_int (nomark _)) (dw_and1 (dt_cmp (op_eqA (hu64 hr)) o_eq (pe_imp (pe_call (ok_law_draw T) (hr.mono (by decide)) (by rfl) T.g__law_draw T.F__law_draw.kp T.b__law_draw .nil passAny (da_cons (dv 0) (da_cons de_int da_nil))) (lift_call fun _ => .nil)) de_int (nomark _))))) (dss_one (ds_expr (pe_imp (pe_bm PySem.F.plainAttrs_list PySem.F.slot_list_append PySem.F.type_list_append mt_append (dv 6) (da_cons (de_tup (da_cons (de_op op_sub o_sub (dv 2) de_int) (da_cons (pe_imp (pe_call (ok_law_draw T) (hr.mono (by decide)) (by rfl) T.g__law_draw T.F__law_draw.kp T.b__law_draw .nil passAny (da_cons (dv 0) (da_cons (de_op op_sub o_sub (dv 2) de_int) da_nil))) (lift_call fun _ => .nil)) da_nil))) da_nil)) (lift_bm tyL_ok o_append)))) dss_nil)
  (dss_one (ds_ret (pe_imp (pe_call (ok_law_listed T) (hr.mono (by decide)) (by rfl) T.g__law_listed T.F__law_listed.kp T.b__law_listed .nil passAny (da_cons (dv 2) (da_cons (dv 6) da_nil))) (lift_call fun _ => .nil)))))) dss_nil)
  (dss_cons (ds_set (i := 3) sc_law_needs.nd rfl (by first | exact Or.inl rfl | exact Or.inr rfl) (de_ix (de_lst (da_cons (pe_imp (pe_call (ok_law_draw T) (hr.mono (by decide)) (by rfl) T.g__law_draw T.F__law_draw.kp T.b__law_draw .nil passAny (da_cons (dv 0) (da_cons (de_op or_add (o_add (mk := false)) (dv 2) de_int) da_nil))) (lift_call fun _ => .nil)) (da_cons (dv 2) (da_cons (de_op or_mul (o_mul (mk := false)) de_int (dv 2)) (da_cons (pe_imp (pe_call (ok_law_draw T) (hr.mono (by decide)) (by rfl) T.g__law_draw T.F__law_draw.kp T.b__law_draw .nil passAny (da_cons (dv 0) (da_cons de_int da_nil))) (lift_call fun _ => .nil)) da_nil))))) (pe_imp (pe_call (ok_law_draw T) (hr.mono (by decide)) (by rfl) T.g__law_draw T.F__law_draw.kp T.b__law_draw .nil passAny (da_cons (dv 0) (da_cons de_int da_nil))) (lift_call fun _ => .nil))))
  (dss_cons (ds_for [4] PassesOwn.never rfl (pi_range1 (by rfl) T.m_range (da_cons (dv 3) da_nil)) io_r1 (pg_name (i := 4) sc_law_needs.nd rfl (by first | exact Or.inl rfl | exact Or.inr rfl)) (GOk.name (by decide))
  (dss_cons (ps_imp (ps_par (i := 7) (j := 8) rfl sc_law_needs.nd rfl rfl (by decide) rfl rfl (da_cons (pe_imp (pe_call (ok_law_draw T) (hr.mono (by decide)) (by rfl) T.g__law_draw T.F__law_draw.kp T.b__law_draw .nil passAny (da_cons (dv 0) (da_cons (dv 2) da_nil))) (lift_call fun _ => .nil)) (da_cons (pe_imp (pe_call (ok_law_draw T) (hr.mono (by decide)) (by rfl) T.g__law_draw T.F__law_draw.kp T.b__law_draw .nil passAny (da_cons (dv 0) (da_cons (dv 2) da_nil))) (lift_call fun _ => .nil)) da_nil)) (by rfl)) lift_par)
  (dss_one (ds_if (PW.pt (dw_and (dt_cmp (op_neA (hu64 hr)) o_ne (dv 7) (dv 8) (nomark _)) (dw_and1 (dt_cmp (op_eqA (hu64 hr)) o_eq (dv 5) de_int (nomark _))))) (dss_one (ds_expr (pe_imp (pe_bm PySem.F.plainAttrs_list PySem.F.slot_list_append PySem.F.type_list_append mt_append (dv 6) (da_cons (de_tup (da_cons (pe_imp (pe_callB (callOr (call_max2 rfl) (cr_max rfl)) (by rfl) T.m_max (by decide +kernel) (da_cons (dv 7) (da_cons (dv 8) da_nil))) (lift_cb o_max)) (da_cons (pe_imp (pe_callB (callOr (call_min2 rfl) (cr_min rfl)) (by rfl) T.m_min (by decide +kernel) (da_cons (dv 7) (da_cons (dv 8) da_nil))) (lift_cb o_min)) da_nil))) da_nil)) (lift_bm tyL_ok o_append)))) (dss_one (ds_if (dt_cmp (op_neA (hu64 hr)) o_ne (dv 7) (dv 8) (nomark _)) (dss_one (ds_expr (pe_imp (pe_bm PySem.F.plainAttrs_list PySem.F.slot_list_append PySem.F.type_list_append mt_append (dv 6) (da_cons (de_ix (de_lst (da_cons (de_tup (da_cons (dv 7) (da_cons (dv 8) da_nil))) (da_cons (de_tup (da_cons (pe_imp (pe_callB (callOr (call_min2 rfl) (cr_min rfl)) (by rfl) T.m_min (by decide +kernel) (da_cons (dv 7) (da_cons (dv 8) da_nil))) (lift_cb o_min)) (da_cons (pe_imp (pe_callB (callOr (call_max2 rfl) (cr_max rfl)) (by rfl) T.m_max (by decide +kernel) (da_cons (dv 7) (da_cons (dv 8) da_nil))) (lift_cb o_max)) da_nil))) da_nil))) (pe_imp (pe_callTy c_int (by rfl) T.m_int (by decide +kernel) (da_cons (de_cmp (op_eqA (hu64 hr)) o_eq (dv 5) de_int (nomark _)) da_nil)) (lift_cb o_int))) da_nil)) (lift_bm tyL_ok o_append)))) dss_nil))))))
  (dss_one (ds_ret (pe_imp (pe_call (ok_law_listed T) (hr.mono (by decide)) (by rfl) T.g__law_listed T.F__law_listed.kp T.b__law_listed .nil passAny (da_cons (dv 2) (da_cons (dv 6) da_nil))) (lift_call fun _ => .nil))))))))), ?_⟩)
  rintro _ m Q Ex ⟨p0, p1, rfl, h⟩
  change (_ : TDS) _ [some p0, some p1, none, none, none, none, none, none, none, none] m
  obtain ⟨s, most, N, rfl, rfl, h1, h2, hN, hs, h⟩ := h
  walk_at "s"
  refine draw_ok hs (by omega) (by omega) (by omega) fun d1 m1 a1 b1 f1 hs1 => ?_
  refine draw_ok hs1 (by omega) (by split <;> omega) (by split <;> omega) fun d2 m2 a2 b2 f2 hs2 => ⟨by decide, ?_⟩
  refine draw_ok hs2 (by omega) (by omega) (by omega) fun d3 m3 a3 b3 f3 hs3 => ?_
  obtain ⟨x, hx, z, rfl, hz1, hz2⟩ := pick3 (P := fun x => ∃ z : Int, x = .int z ∧ 0 ≤ z ∧ z < most) (a := .int d1) (b := .int d2) (c := .int (most - 1)) a3 b3 ⟨_, rfl, a1, b1⟩ ⟨_, rfl, a2, by split at b2 <;> omega⟩ ⟨_, rfl, by omega, by omega⟩
  walk_at "s"
  refine ⟨_, hx, ?_⟩
  obtain ⟨n, hn⟩ := Int.eq_ofNat_of_zero_le (show 0 ≤ 1 + z by omega)
  walk_at "s"
  rw [hn]
  refine draw_ok hs3 (by omega) (by omega) (by omega) fun d4 m4 a4 b4 f4 hs4 => ⟨Nat.zero_le _, fun p hp => ?_⟩
  have fr : OldBut s m m4 := (((OldBut.of_but f1).trans (.of_but f2)).trans (.of_but f3)).trans (.of_but f4)
  have hps : p ≠ s := hs4.ne hp
  have hp0 := fr.fresh hs4 hp
  walk_at "s"
  have fin : ∀ (m' : Mu) (q : Addr) (prs : List (Int × Int)) (N' : Int), Src m' s N' → N' ≤ N + 900 → OldBut s m m' → m' q = some (.lst (prs.map pairD)) → prs.length ≤ 200 → (∀ q ∈ prs, okPair n q) → sp_law_listed [.int n, .ref q] m' (Gq K Q) fun _ _ _ => False :=
    fun m' q prs N' hs' hN' fr' hq hl hr => ⟨_, _, rfl, n, prs, rfl, by omega, by omega, lsD_ref hq, hl, hr, fun p rs m2 old np nr hlen ra rv => by
      refine gq (h p rs m2 ?_ (fr'.trans (.of_old old)) (fr'.fresh hs' np) (fun r hr => fr'.fresh hs' (nr r hr)) (by omega) (by omega) ra (by rw [hlen]; exact rv))
      refine (hs'.frame ?_).mono (show N' ≤ N + 1000 by omega)
      obtain ⟨_, _, _, e, _⟩ := hs'
      rw [e]; exact old _ _ e⟩
  refine ite2 (fun e4 => ?_) (fun e4 => ?_)
  · let f : D → D := fun x => match x with
      | .int i => pairD (i, i + 1)
      | x => x
    refine dlcM_map (rangeD 0 ((n : Int) - 1).toNat) f (walks_range (by omega) (by omega) fun _ h => ?_) (fun x hx m' Qe hq => ?_) (fun _ q hq => ?_)
    · walk_at "s"
      exact h
    · obtain ⟨i, hi⟩ := List.mem_iff_getElem?.mp hx
      obtain ⟨rfl, _⟩ := range_get hi
      walk_at "s"
      exact ⟨by decide, hq⟩
    · have e1 : (rangeD 0 ((n : Int) - 1).toNat).map f = ((List.range ((n : Int) - 1).toNat).map fun (i : Nat) => ((i : Int), (i : Int) + 1)).map pairD := by
        unfold rangeD
        rw [List.map_map, List.map_map]
        refine List.map_congr_left fun i _ => ?_
        show pairD (0 + i, 0 + i + 1) = _
        rw [Int.zero_add]; rfl
      rw [e1]
      generalize hpr : ((List.range ((n : Int) - 1).toNat).map fun (i : Nat) => ((i : Int), (i : Int) + 1)) = prs
      have hl : prs.length ≤ 100 := by rw [← hpr, List.length_map, List.length_range]; omega
      have hr : ∀ q ∈ prs, okPair n q := fun q hq => by
        rw [← hpr] at hq
        obtain ⟨i, hi, rfl⟩ := List.mem_map.mp hq
        have := List.mem_range.mp hi
        refine ⟨?_, ?_, ?_, ?_, ?_⟩ <;> dsimp only <;> omega
      have hqs : q ≠ s := fun z => by
        rw [z, updM_ne hps.symm] at hq
        obtain ⟨_, _, _, h, _⟩ := hs4; rw [h] at hq; cases hq
      have hs5 : Src (updM (updM m4 p (.lst [])) q (.lst (prs.map pairD))) s (N + 4) := (hs4.frame (by rw [updM_ne hqs.symm, updM_ne hps.symm])).mono (by omega)
      obtain ⟨hqp, hq4⟩ := updM_none hq
      have hq0 := fr.fresh hs4 hq4
      have fr5 : OldBut s m (updM (updM m4 p (.lst [])) q (.lst (prs.map pairD))) := (fr.new hp0).new hq0
      refine ite2 (fun e5 => ?_) (fun e5 => fin _ q prs _ hs5 (by omega) fr5 updM_same (by omega) hr)
      have e5 := of_decide_eq_true e5
      refine draw_ok hs5 (by omega) (by omega) (by omega) fun d5 m6 a5 b5 f6 hs6 => ?_
      walk_at "s"
      have hq6 : m6 q = some (.lst (prs.map pairD)) := (f6 q hqs).trans updM_same
      refine ite2 (fun e6 => ⟨⟨_, lsD_ref hq6⟩, ?_⟩) (fun e6 => fin _ q prs _ hs6 (by omega) (fr5.trans (.of_but f6)) hq6 (by omega) hr)
      refine draw_ok hs6 (by omega) (by omega) (by omega) fun d6 m7 a6 b6 f7 hs7 => ⟨by decide, ?_⟩
      have hq7 : m7 q = some (.lst (prs.map pairD)) := (f7 q hqs).trans hq6
      refine append_ref hq7 (by rw [List.length_map, sizeLine_eq]; omega) ?_
      refine fin _ q (prs ++ [((n : Int) - 1, d6)]) _ (hs7.frame (updM_ne hqs.symm)) (by omega) (((fr5.trans (.of_but f6)).trans (.of_but f7)).new hq0) (by rw [updM_same, List.map_append]; rfl) (by simp; omega) (fun z hz => ?_)
      rcases List.mem_append.mp hz with hz | hz
      · exact hr z hz
      · cases List.mem_singleton.mp hz
        exact ⟨by dsimp only; omega, by dsimp only; omega, a6, by dsimp only; omega, by dsimp only; omega⟩
  · have hs5 : Src (updM m4 p (.lst [])) s (N + 4) := (hs4.frame (updM_ne hps.symm)).mono (by omega)
    have fr5 := fr.new (o := .lst []) hp0
    refine draw_ok hs5 (by omega) (by omega) (by omega) fun d5 m6 a5 b5 f6 hs6 => ?_
    refine ⟨cmulL (by decide) (by decide), draw_ok hs6 (by omega) (by omega) (by omega) fun d6 m7 a6 b6 f7 hs7 => ⟨by decide, ?_⟩⟩
    refine draw_ok hs7 (by omega) (by omega) (by omega) fun d7 m8 a7 b7 f8 hs8 => ?_
    obtain ⟨x, hx, k, rfl, hk1, hk2⟩ := pick4 (P := fun x => ∃ z : Int, x = .int z ∧ 0 ≤ z ∧ z ≤ 180) (a := .int d5) (b := .int n) (c := .int (3 * n)) (d := .int d6) a7 b7 ⟨_, rfl, a5, by omega⟩ ⟨_, rfl, by omega, by omega⟩ ⟨_, rfl, by omega, by omega⟩ ⟨_, rfl, by omega, by omega⟩
    walk_at "s"
    refine ⟨_, hx, ?_⟩
    have fr8 : OldBut s m m8 := ((fr5.trans (.of_but f6)).trans (.of_but f7)).trans (.of_but f8)
    have hp8 : m8 p = some (.lst []) := (f8 p hps).trans ((f7 p hps).trans ((f6 p hps).trans updM_same))
    refine dfor_inv (ok := fun _ => True) (rangeD 0 k.toNat) (fun i tau m' => ∃ a b c, ∃ (prs : List (Int × Int)), tau = [some (.ref s), some (.int most), some (.int n), some (.int k), a, some (.int d4), some (.ref p), b, c, none] ∧ i ≤ 180 ∧ Src m' s (N + 10 + 2 * i) ∧ OldBut s m m' ∧ m' p = some (.lst (prs.map pairD)) ∧ prs.length ≤ i ∧ (∀ q ∈ prs, okPair n q))
      (walks_range (by omega) (by omega) fun _ h => ?_).k (fun _ => ⟨_, _, _, [], rfl, by omega, hs8.mono (by omega), fr8, hp8, Nat.le_refl _, fun q hq => nomatch hq⟩) (fun _ _ _ _ => trivial) (fun i x tau m' hx i' => ?_) (fun tau m' i' => ?_)
    · walk_at "s"
      exact h
    · obtain ⟨_, _, _, prs, rfl, hi, hs9, fr9, hp9, hl, hrg⟩ := i'
      obtain ⟨rfl, hik⟩ := range_get hx
      walk_at "s"
      refine draw_ok hs9 (by omega) (by omega) (by omega) fun d8 m10 a8 b8 f10 hs10 => ?_
      refine draw_ok hs10 (by omega) (by omega) (by omega) fun d9 m11 a9 b9 f11 hs11 => ?_
      walk_at "s"
      have hp11 : m11 p = some (.lst (prs.map pairD)) := (f11 p hps).trans ((f10 p hps).trans hp9)
      have fr11 : OldBut s m m11 := (fr9.trans (.of_but f10)).trans (.of_but f11)
      have hs11' : Src m11 s (N + 10 + 2 * (i + 1 : Nat)) := hs11.mono (by omega)
      have hi' : i + 1 ≤ 180 := by omega
      have go : ∀ u v : Int, 0 ≤ u → u < n → 0 ≤ v → v < n → u ≠ v → rdAppend (.ref p) [.tup [.int u, .int v]] m11 fun x m1 => i + 1 ≤ 180 ∧ Src m1 s (N + 10 + 2 * (i + 1 : Nat)) ∧ OldBut s m m1 ∧
          ∃ x : List (Int × Int), m1 p = some (.lst (x.map pairD)) ∧ x.length ≤ i + 1 ∧ ∀ q ∈ x, okPair n q := fun u v u1 u2 v1 v2 uv => by
        refine append_ref hp11 (by rw [List.length_map, sizeLine_eq]; omega) ⟨hi', hs11'.frame (updM_ne hps.symm), fr11.new hp0, prs ++ [(u, v)], by rw [updM_same, List.map_append]; rfl, by simp; omega, fun z hz => ?_⟩
        rcases List.mem_append.mp hz with hz | hz
        · exact hrg z hz
        · cases List.mem_singleton.mp hz
          exact ⟨u1, u2, v1, v2, uv⟩
      have tl : tyL (.ref p) m11 := ⟨_, lsD_ref hp11⟩
      have stay : i + 1 ≤ 180 ∧ Src m11 s (N + 10 + 2 * (i + 1 : Nat)) ∧ OldBut s m m11 ∧
          ∃ x : List (Int × Int), m11 p = some (.lst (x.map pairD)) ∧ x.length ≤ i + 1 ∧ ∀ q ∈ x, okPair n q := ⟨hi', hs11', fr11, prs, hp11, by omega, hrg⟩
      have go2 : d8 ≠ d9 → ∃ x, atI [D.tup [.int d8, .int d9], D.tup [.int (if d9 < d8 then d9 else d8), .int (if d9 > d8 then d9 else d8)]] (if decide (d4 = 2) = true then 1 else 0) = some x ∧ rdAppend (.ref p) [x] m11 fun x m1 => i + 1 ≤ 180 ∧ Src m1 s (N + 10 + 2 * (i + 1 : Nat)) ∧ OldBut s m m1 ∧
          ∃ x : List (Int × Int), m1 p = some (.lst (x.map pairD)) ∧ x.length ≤ i + 1 ∧ ∀ q ∈ x, okPair n q := fun hne => by
        have mn : 0 ≤ (if d9 < d8 then d9 else d8) ∧ (if d9 < d8 then d9 else d8) < n := by constructor <;> split <;> omega
        have mx : 0 ≤ (if d9 > d8 then d9 else d8) ∧ (if d9 > d8 then d9 else d8) < n := by constructor <;> split <;> omega
        have mne : (if d9 < d8 then d9 else d8) ≠ (if d9 > d8 then d9 else d8) := by split <;> split <;> omega
        by_cases e : d4 = 2
        · have e' : (if decide (d4 = 2) = true then (1 : Int) else 0) = 1 := if_pos (decide_eq_true e)
          rw [e']
          exact ⟨_, at1, go _ _ mn.1 mn.2 mx.1 mx.2 mne⟩
        · have e' : (if decide (d4 = 2) = true then (1 : Int) else 0) = 0 := if_neg (by rw [decide_eq_false e]; exact Bool.false_ne_true)
          rw [e']
          exact ⟨_, at0, go _ _ a8 b8 a9 b9 hne⟩
      refine ifN (fun hne => ite2 (fun _ => ⟨tl, by decide, go _ _ (by split <;> omega) (by split <;> omega) (by split <;> omega) (by split <;> omega) (by split <;> split <;> omega)⟩) fun _ => ite2 (fun _ => ⟨tl, by decide, by decide, by decide, go2 hne⟩) fun _ => stay) fun e => by
        rw [decide_eq_true e]
        exact stay
    · obtain ⟨_, _, _, prs, rfl, hi, hs9, fr9, hp9, hl, hrg⟩ := i'
      walk_at "s"
      rw [range_len] at *
      exact fin _ p prs _ hs9 (by omega) fr9 hp9 (by omega) hrg
end
/-! ### _law_is_fine -/
/-- the row's walk: what the last one is, or none -/
def fineRow (t : Int) : Int → List D → Option Int
  | last, [] => some last
  | last, .int i :: r => if i ≤ last ∨ i = t then none else fineRow t i r
  | _, _ => none
def sp_law_is_fine : DSp := sp1 fun d m Q _ => Good d ∧ Q (.bl (needsD d)) m
def entryFrom (n t last : Int) (ds : List D) : Bool := ds.all (okT n t) && (match intsOf ds with | some ns => ascD (last :: ns) | none => false) && decide (last < n)
theorem fine_from {n t : Int} : ∀ (ds : List D) (last : Int), -1 ≤ last → entryFrom n t last ds = match fineRow t last ds with | some l => decide (l < n) | none => false
  | [], last, _ => by simp [entryFrom, intsOf, ascD, fineRow]
  | .int i :: r, last, hl => by
    rw [fineRow]
    by_cases c : i ≤ last ∨ i = t
    · rw [if_pos c]
      unfold entryFrom
      rw [List.all_cons, intsOf]
      cases intsOf r with
      | none => simp
      | some ns =>
        rcases c with c | c
        · have : decide (last < i) = false := decide_eq_false (by omega)
          simp [ascD, this]
        · simp [okT, c]
    · rw [if_neg c]
      have c1 : last < i := by omega
      have c2 : ¬ i = t := by omega
      rw [← fine_from r i (by omega)]
      unfold entryFrom
      rw [List.all_cons, intsOf]
      have e1 : okT n t (.int i) = decide (i < n) := by
        simp only [okT]
        by_cases h : i < n
        · simp [h, c2]; omega
        · simp [h, c2]; omega
      rw [e1]
      cases intsOf r with
      | none => simp
      | some ns =>
        have e2 : decide (last < i) = true := decide_eq_true c1
        simp only [Option.map_some, ascD, e2, Bool.true_and]
        by_cases h : i < n
        · have : last < n := by omega
          simp [h, this]
        · simp [h]
  | .non :: _, _, _ => by simp [entryFrom, okT, fineRow]
  | .bl _ :: _, _, _ => by simp [entryFrom, okT, fineRow]
  | .str _ :: _, _, _ => by simp [entryFrom, okT, fineRow]
  | .ty _ :: _, _, _ => by simp [entryFrom, okT, fineRow]
  | .ref _ :: _, _, _ => by simp [entryFrom, okT, fineRow]
  | .lst _ :: _, _, _ => by simp [entryFrom, okT, fineRow]
  | .tup _ :: _, _, _ => by simp [entryFrom, okT, fineRow]
  | .dic _ :: _, _, _ => by simp [entryFrom, okT, fineRow]
  | .ins _ _ :: _, _, _ => by simp [entryFrom, okT, fineRow]
  | .scr _ :: _, _, _ => by simp [entryFrom, okT, fineRow]
theorem entry_fine {n t : Int} (hn : 1 ≤ n) (ds : List D) : entryL n t ds = match fineRow t (-1) ds with | some l => decide (l < n) | none => false := by
  rw [← fine_from ds (-1) (by omega)]
  unfold entryL entryFrom
  have e : decide ((-1 : Int) < n) = true := decide_eq_true (by omega)
  rw [e, Bool.and_true]
  cases c : ds.all (okT n t) with
  | false => rfl
  | true =>
    obtain ⟨ns, rfl⟩ := okT_ints c
    rw [intsOf_map]
    cases ns with
    | nil => rfl
    | cons a r =>
      have : okT n t (.int a) = true := by
        rw [List.map_cons, List.all_cons, Bool.and_eq_true] at c
        exact c.1
      have ha : 0 ≤ a := by
        simp only [okT, Bool.and_eq_true, decide_eq_true_eq] at this
        exact this.1.1
      have e2 : decide ((-1 : Int) < a) = true := decide_eq_true (by omega)
      simp [ascD, e2]
section
variable {P : Program} {w : World} {K : PySem.W.Frag} {mg : Str → Option Value} {base : Heap} {Ad : Adr}
set_option maxHeartbeats 4000000 in
theorem ok_law_is_fine (T : Txt K mg Ad) : FnOk P w K mg base CX0 1 Ad.a__law_is_fine Ad.d__law_is_fine ["_law_value"] (spD K sp_law_is_fine) := by
  refine DL.Fun.okD T.F__law_is_fine sc_law_is_fine sp1_len (fun cdv A outer s H E hr => ⟨_, (dss_cons (ds_if (PW.pt (dw_or (dt_not (dt_val (pe_imp (pe_callB call_isi (by rfl) T.m_isinstance (by decide +kernel) (da_cons (dv 0) (da_cons (de_bty (n := "list") (by rfl) T.m_list (by decide +kernel)) da_nil))) (lift_cb (o_isT kf_list))))) (dw_or (dt_cmp (op_eqA (hu64 hr)) o_eq (pe_imp (pe_callB c_len (by rfl) T.m_len (by decide +kernel) (da_cons (dv 0) da_nil)) (lift_cb o_len)) de_int (nomark _)) (dw_or1 (dt_cmp or_gt o_gt (pe_imp (pe_callB c_len (by rfl) T.m_len (by decide +kernel) (da_cons (dv 0) da_nil)) (lift_cb o_len)) de_int (nomark _)))))) (dss_one (ds_ret de_bl)) dss_nil)
  (dss_cons (ds_for [1, 2] PassesOwn.never rfl (pi_enum (by rfl) T.m_enumerate (da_cons (dv 0) da_nil)) io_enum (pg_tup (n := 2) rfl (pgs_cons (pg_name (i := 1) sc_law_is_fine.nd rfl (by first | exact Or.inl rfl | exact Or.inr rfl)) (pgs_cons (pg_name (i := 2) sc_law_is_fine.nd rfl (by first | exact Or.inl rfl | exact Or.inr rfl)) pgs_nil))) (GOk.tup (GsOk.cons (GOk.name (by decide)) (GsOk.cons (GOk.name (by decide)) GsOk.nil)))
  (dss_cons (ds_if (dt_not (dt_val (pe_imp (pe_callB call_isi (by rfl) T.m_isinstance (by decide +kernel) (da_cons (dv 2) (da_cons (de_bty (n := "list") (by rfl) T.m_list (by decide +kernel)) da_nil))) (lift_cb (o_isT kf_list))))) (dss_one (ds_ret de_bl)) dss_nil)
  (dss_cons (ds_set (i := 3) sc_law_is_fine.nd rfl (by first | exact Or.inl rfl | exact Or.inr rfl) (de_neg de_int))
  (dss_cons (ds_for [4] PassesOwn.never rfl (pi_list (dv 2)) io_list (pg_name (i := 4) sc_law_is_fine.nd rfl (by first | exact Or.inl rfl | exact Or.inr rfl)) (GOk.name (by decide))
  (dss_cons (ds_if (PW.pt (dw_or (dt_not (dt_val (pe_imp (pe_callB call_isi (by rfl) T.m_isinstance (by decide +kernel) (da_cons (dv 4) (da_cons (de_bty (n := "int") (by rfl) T.m_int (by decide +kernel)) da_nil))) (lift_cb (o_isT kf_int))))) (dw_or (dt_val (pe_imp (pe_callB call_isi (by rfl) T.m_isinstance (by decide +kernel) (da_cons (dv 4) (da_cons (de_bty (n := "bool") (by rfl) T.m_bool (by decide +kernel)) da_nil))) (lift_cb (o_isT kf_bool)))) (dw_or (dt_cmp or_le o_le (dv 4) (dv 3) (nomark _)) (dw_or1 (dt_cmp (op_eqA (hu64 hr)) o_eq (dv 4) (dv 1) (nomark _))))))) (dss_one (ds_ret de_bl)) dss_nil)
  (dss_one (ds_set (i := 3) sc_law_is_fine.nd rfl (by first | exact Or.inl rfl | exact Or.inr rfl) (dv 4)))))
  (dss_one (ds_if (dt_cmp or_ge o_ge (dv 3) (pe_imp (pe_callB c_len (by rfl) T.m_len (by decide +kernel) (da_cons (dv 0) da_nil)) (lift_cb o_len)) (nomark _)) (dss_one (ds_ret de_bl)) dss_nil))))))
  (dss_one (ds_ret de_bl)))), ?_⟩)
  rintro _ m Q Ex ⟨p0, rfl, h⟩
  change (_ : TDS) _ [some p0, none, none, none, none] m
  obtain ⟨g, h⟩ := h
  walk_at "s"
  refine ⟨fz_plain g.pl, ?_⟩
  cases p0 <;> first | (simp only [isListT, Bool.not_false, if_true]; exact gq h) | (have := g.pl; simp [DL.plain] at this; done) | skip
  rename_i ds
  simp only [isListT, Bool.not_true, Bool.false_eq_true, if_false]
  have h : Q (.bl (needsL ds)) m := h
  unfold needsL at h
  walk_at "s"
  refine ite2 (fun e => ?_) (fun e1 => ite2 (fun e => ?_) (fun e2 => ?_))
  · have e := of_decide_eq_true e
    rw [decide_eq_false (by omega : ¬ (1 : Int) ≤ ds.length), Bool.false_and, Bool.false_and] at h
    exact gq h
  · have e := of_decide_eq_true e
    rw [decide_eq_false (by omega : ¬ (ds.length : Int) ≤ 60), Bool.and_false, Bool.false_and] at h
    exact gq h
  have e1' : (1 : Int) ≤ ds.length := by
    have : ¬ (ds.length : Int) = 0 := fun z => e1 (decide_eq_true z)
    omega
  have e2' : (ds.length : Int) ≤ 60 := by
    have : ¬ 60 < (ds.length : Int) := fun z => e2 (decide_eq_true z)
    omega
  rw [decide_eq_true e1', decide_eq_true e2', Bool.true_and, Bool.true_and] at h
  refine dfor_inv (ok := fun m' => lsD m' (.lst ds) = some ds) (enumD 0 ds) (fun i tau m' => ∃ a b c d, tau = [some (.lst ds), a, b, c, d] ∧ m = m' ∧ (enumD 0 ds).all (entryAt ds.length) = ((enumD 0 ds).drop i).all (entryAt ds.length))
    (walksK_enum (d := .lst ds) rfl fun _ h => ⟨_, rfl, h⟩) (fun _ => ⟨_, _, _, _, rfl, rfl, rfl⟩) (fun _ _ _ _ => rfl) (fun i x tau m' hx i' => ?_) (fun tau m' i' => ?_)
  · obtain ⟨_, _, _, _, rfl, rfl, hall⟩ := i'
    obtain ⟨hi, ex⟩ := List.getElem?_eq_some_iff.mp hx
    rw [List.drop_eq_getElem_cons hi, ex, List.all_cons] at hall
    obtain ⟨t, row, he, rfl⟩ := mem_enum (List.mem_of_getElem? hx)
    have ok := g.items row he
    walk_at "s"
    refine ⟨fz_plain ok.pl, ite2 (fun e => ?_) (fun e => ?_)⟩
    · have : entryAt ds.length (.tup [.int t, row]) = false := by
        cases row <;> first | rfl | (simp [isListT] at e)
      rw [this, Bool.false_and] at hall
      rw [hall] at h
      exact gq h
    have : ∃ rs, row = .lst rs := by
      have pl := ok.pl
      cases row <;> first | exact ⟨_, rfl⟩ | (simp [isListT] at e; done) | (simp [DL.plain] at pl; done)
    obtain ⟨rs, rfl⟩ := this
    have hen : entryAt ds.length (.tup [.int t, .lst rs]) = match fineRow t (-1) rs with | some l => decide (l < ds.length) | none => false := by
      show (isListT (.lst rs) && entryL _ _ rs) = _
      rw [← entry_fine e1']; rfl
    have pls : ∀ z ∈ rs, DL.plain z = true := fun z hz => by
      have := ok.pl
      rw [DL.plain, plainAll_eq, List.all_eq_true] at this
      exact this z hz
    refine dfor_inv (ok := fun m' => lsD m' (.lst rs) = some rs) rs (fun j tau m' => ∃ last c, tau = [some (.lst ds), some (.int t), some (.lst rs), some (.int last), c] ∧ m = m' ∧ fineRow t (-1) rs = fineRow t last (rs.drop j))
      (walksK_list (d := .lst rs) rfl fun _ h => ⟨_, rfl, h⟩) (fun _ => ⟨_, _, rfl, rfl, rfl⟩) (fun _ _ _ _ => rfl) (fun j x tau m' hx i' => ?_) (fun tau m' i' => ?_)
    · obtain ⟨last, _, rfl, rfl, hf⟩ := i'
      obtain ⟨hj, ex⟩ := List.getElem?_eq_some_iff.mp hx
      rw [List.drop_eq_getElem_cons hj, ex] at hf
      have pl := pls x (List.mem_of_getElem? hx)
      have bad : fineRow t last (x :: rs.drop (j + 1)) = none → Gq K Q (.bl false) m := fun e => by
        rw [hf, e] at hen
        rw [hen, Bool.false_and] at hall
        rw [hall] at h
        exact gq h
      walk_at "s"
      refine ⟨fz_plain pl, ?_⟩
      cases x <;> first | (rw [if_pos (by rfl)]; exact bad rfl) | skip
      · simp only [isIntT, isBoolT, Bool.not_true, Bool.false_eq_true, if_false, if_true]
        exact ⟨rfl, bad rfl⟩
      rename_i k
      simp only [isIntT, isBoolT, Bool.not_true, Bool.false_eq_true, if_false, if_true]
      refine ⟨rfl, ?_⟩
      have fr : fineRow t last (.int k :: rs.drop (j + 1)) = if k ≤ last ∨ k = t then none else fineRow t k (rs.drop (j + 1)) := by rw [fineRow]
      rw [fr] at hf bad
      walk_at "s"
      refine ite2 (fun e => bad (if_pos (.inl (of_decide_eq_true e)))) (fun e5 => ite2 (fun e => bad (if_pos (.inr (of_decide_eq_true e)))) (fun e6 => ?_))
      rw [if_neg (fun z => z.elim (fun z => e5 (decide_eq_true z)) fun z => e6 (decide_eq_true z))] at hf
      exact hf
    · obtain ⟨last, _, rfl, rfl, hf⟩ := i'
      rw [List.drop_length] at hf
      rw [hf, fineRow] at hen
      dsimp only at hen
      walk_at "s"
      refine ite2 (fun e => ?_) (fun e => ?_)
      · have e := of_decide_eq_true e
        rw [hen, decide_eq_false (by omega), Bool.false_and] at hall
        rw [hall] at h
        exact gq h
      · have e : ¬ (ds.length : Int) ≤ last := fun z => e (decide_eq_true z)
        rw [hen] at hall
        rw [decide_eq_true (by omega), Bool.true_and] at hall
        exact hall
  · obtain ⟨_, _, _, _, rfl, rfl, hall⟩ := i'
    rw [List.drop_length] at hall
    rw [hall] at h
    walk_at "s"
    exact gq h
end
/-! ### _law_bad_needs -/
/-- data that may stand in the place of needs, and may be shown -/
def Fine (e : D) : Prop := Fit 3000000 40 e ∨ e = .dic []
theorem Fine.good {e : D} (h : Fine e) : Good e := by
  rcases h with h | rfl
  · exact ⟨h.pl, fun _ => h.nd, Nat.le_trans h.dp (by decide)⟩
  · exact ⟨rfl, fun h => (nomatch h), by simp [toP, PyData.depth, PyData.depthKv]⟩
def sp_law_bad_needs : DSp := sp2 fun x y m Q _ => ∃ (s p : Addr) (rs : List Addr) (N : Int), x = .ref s ∧ y = .ref p ∧ N ≤ 10 ^ 7 ∧ Src m s N ∧ RowsAt m p rs 300 ∧ 1 ≤ rs.length ∧ rs.length ≤ 60 ∧ (∀ r ∈ rs, r ≠ s) ∧ p ≠ s ∧
  ∀ d e m', But s m m' → Src m' s (N + 10) → Vw m' (fun _ => true) d e → Fine e → Q d m'
theorem RowsAt.but {m m' : Mu} {s p : Addr} {rs : List Addr} {B : Nat} (h : RowsAt m p rs B) (f : But s m m') (hp : p ≠ s) (hr : ∀ r ∈ rs, r ≠ s) : RowsAt m' p rs B := ⟨(f p hp).trans h.1, fun r hr' => by
  obtain ⟨ns, a, b⟩ := h.2 r hr'
  exact ⟨ns, (f r (hr r hr')).trans a, b⟩⟩
theorem fit_small {x : Int} (h0 : 0 ≤ x) (h1 : x ≤ 100) : Fit 4 1 (.int x) := fit_int (by decide) (by omega) (by decide)
theorem fit_row {m : Mu} {r : Addr} {ns : List Int} {B : Nat} (e : m r = some (.lst (ns.map D.int))) (h : okRow B ns) (hB : B ≤ 320) : FitV m 2000 2 (.ref r) :=
  .ref e (n := 320) (w := 4) (k := 1) (fun x hx => by
    obtain ⟨i, hi, rfl⟩ := List.mem_map.mp hx
    exact (fit_small (h.2 i hi).1 (h.2 i hi).2).v) (by rw [List.length_map]; exact Nat.le_trans h.1 hB) (by decide) (by decide)
/-- .. whatever the source becomes -/
def FitB (s : Addr) (m : Mu) (w k : Nat) (d : D) : Prop := ∀ m', But s m m' → FitV m' w k d
theorem FitB.of {s : Addr} {m : Mu} {w k : Nat} {e : D} (h : Fit w k e) : FitB s m w k e := fun _ _ => h.v
theorem FitB.but {s : Addr} {m m1 : Mu} {w k : Nat} {e : D} (h : FitB s m w k e) (f : But s m m1) : FitB s m1 w k e := fun m' g => h m' (f.trans g)
theorem FitB.mono {s : Addr} {m : Mu} {w w' k k' : Nat} {e : D} (h : FitB s m w k e) (a : w ≤ w') (b : k ≤ k') : FitB s m w' k' e := fun m' g => (h m' g).mono a b
theorem FitB.lst {s : Addr} {m : Mu} {w k n W K : Nat} {ds : List D} (h : ∀ e ∈ ds, FitB s m w k e) (l : ds.length ≤ n) (hw : n * (w + 2) + 3 ≤ W) (hk : k + 1 ≤ K) : FitB s m W K (.lst ds) := fun m' g => .lst (fun e he => h e he m' g) l hw hk
theorem FitB.tup {s : Addr} {m : Mu} {w k n W K : Nat} {ds : List D} (h : ∀ e ∈ ds, FitB s m w k e) (l : ds.length ≤ n) (hw : n * (w + 2) + 3 ≤ W) (hk : k + 1 ≤ K) : FitB s m W K (.tup ds) := fun m' g => .tup (fun e he => h e he m' g) l hw hk
theorem fitB_row {s : Addr} {m : Mu} {r : Addr} {ns : List Int} {B : Nat} (e : m r = some (.lst (ns.map D.int))) (hr : r ≠ s) (h : okRow B ns) (hB : B ≤ 320) : FitB s m 2000 2 (.ref r) := fun m' g => fit_row ((g r hr).trans e) h hB
theorem fitB_rows {s p : Addr} {m : Mu} {rs : List Addr} {B : Nat} (h : RowsAt m p rs B) (hr : ∀ r ∈ rs, r ≠ s) (hB : B ≤ 320) : ∀ x ∈ rs.map D.ref, FitB s m 2000 2 x := fun x hx => by
  obtain ⟨r, hr', rfl⟩ := List.mem_map.mp hx
  obtain ⟨ns, e, o⟩ := h.2 r hr'
  exact fitB_row e (hr r hr') o hB
def FineB (s : Addr) (m : Mu) (d : D) : Prop := ∀ m', But s m m' → ∃ e, Vw m' (fun _ => true) d e ∧ Fine e
theorem FitB.fine {s : Addr} {m : Mu} {w k : Nat} {d : D} (h : FitB s m w k d) (a : w ≤ 3000000) (b : k ≤ 40) : FineB s m d := fun m' g => let ⟨e, v, f⟩ := h m' g; ⟨e, v, .inl (f.mono a b)⟩
section
variable {P : Program} {w : World} {K : PySem.W.Frag} {mg : Str → Option Value} {base : Heap} {Ad : Adr}
set_option maxHeartbeats 4000000 in
theorem ok_law_bad_needs (T : Txt K mg Ad) : FnOk P w K mg base CX0 2 Ad.a__law_bad_needs Ad.d__law_bad_needs ["_law_source_here", "_law_rows"] (spD K sp_law_bad_needs) := by
  refine DL.Fun.okD T.F__law_bad_needs sc_law_bad_needs sp2_len (fun cdv A outer s H E hr => ⟨_, (dss_cons (ps_imp (ps_par (i := 5) (j := 6) rfl sc_law_bad_needs.nd rfl rfl (by decide) rfl rfl (da_cons (pe_imp (pe_call (ok_law_draw T) (hr.mono (by decide)) (by rfl) T.g__law_draw T.F__law_draw.kp T.b__law_draw .nil passAny (da_cons (dv 0) (da_cons (pe_imp (pe_callB c_len (by rfl) T.m_len (by decide +kernel) (da_cons (dv 1) da_nil)) (lift_cb o_len)) da_nil))) (lift_call fun _ => .nil)) (da_cons (pe_imp (pe_callB c_len (by rfl) T.m_len (by decide +kernel) (da_cons (dv 1) da_nil)) (lift_cb o_len)) da_nil)) (by rfl)) lift_par)
  (dss_cons (ds_set (i := 2) sc_law_bad_needs.nd rfl (by first | exact Or.inl rfl | exact Or.inr rfl) (de_ix (de_lst (da_cons (dv 5) (da_cons (dv 6) (da_cons (de_neg de_int) (da_cons de_bl (da_cons de_bl (da_cons de_non (da_cons de_str (da_cons (de_lst (da_cons de_int da_nil)) (da_cons (de_tup (da_cons de_int da_nil)) (da_cons (de_op op_powD o_pow de_int de_int) (da_cons (de_op op_sub o_sub de_int (de_op op_powD o_pow de_int de_int)) da_nil)))))))))))) (pe_imp (pe_call (ok_law_draw T) (hr.mono (by decide)) (by rfl) T.g__law_draw T.F__law_draw.kp T.b__law_draw .nil passAny (da_cons (dv 0) (da_cons de_int da_nil))) (lift_call fun _ => .nil))))
  (dss_cons (ds_asg (de_tup (da_cons (de_slice (mk := false) (dv 1) do_none (do_some (dv 5))) (da_cons (de_ix (dv 1) (dv 5)) (da_cons (de_slice (mk := false) (dv 1) (do_some (de_op or_add (o_add (mk := false)) (dv 5) de_int)) do_none) da_nil)))) (dg_tup (pg_tup (n := 3) rfl (dgs_cons (dg_name (i := 7) sc_law_bad_needs.nd rfl (by first | exact Or.inl rfl | exact Or.inr rfl)) (dgs_cons (dg_name (i := 8) sc_law_bad_needs.nd rfl (by first | exact Or.inl rfl | exact Or.inr rfl)) (dgs_cons (dg_name (i := 9) sc_law_bad_needs.nd rfl (by first | exact Or.inl rfl | exact Or.inr rfl)) dgs_nil))))))
  (dss_cons (ds_set (i := 3) sc_law_bad_needs.nd rfl (by first | exact Or.inl rfl | exact Or.inr rfl) (pe_imp (pe_call (ok_law_draw T) (hr.mono (by decide)) (by rfl) T.g__law_draw T.F__law_draw.kp T.b__law_draw .nil passAny (da_cons (dv 0) (da_cons (de_op or_add (o_add (mk := false)) (pe_imp (pe_callB c_len (by rfl) T.m_len (by decide +kernel) (da_cons (dv 8) da_nil)) (lift_cb o_len)) de_int) da_nil))) (lift_call fun _ => .nil)))
  (dss_cons (ds_set (i := 4) sc_law_bad_needs.nd rfl (by first | exact Or.inl rfl | exact Or.inr rfl) (de_lst (da_cons (de_op or_add (o_add (mk := false)) (de_op or_add (o_add (mk := false)) (de_slice (mk := false) (dv 8) do_none (do_some (dv 3))) (de_lst (da_cons (dv 2) da_nil))) (de_slice (mk := false) (dv 8) (do_some (dv 3)) do_none)) (da_cons (pe_imp (pe_callTy call_tuple_of (by rfl) T.m_tuple (by decide +kernel) (da_cons (dv 8) da_nil)) (lift_cb o_tuple)) (da_cons de_non (da_cons (de_op or_add (o_add (mk := false)) (dv 8) (de_lst (da_cons (dv 6) da_nil))) (da_cons (de_lst (da_cons (dv 5) da_nil)) da_nil)))))))
  (dss_cut (ds_if (dt_cmp (op_neA (hu64 hr)) o_ne (dv 8) (de_lst da_nil) (nomark _)) (dss_one (ds_set (i := 4) sc_law_bad_needs.nd rfl (by first | exact Or.inl rfl | exact Or.inr rfl) (de_op or_add (o_add (mk := false)) (dv 4) (de_lst (da_cons (de_op or_add (o_add (mk := false)) (dv 8) (dv 8)) (da_cons (de_ix (dv 8) de_int) da_nil)))))) dss_nil)
  (dss_cons (ds_set (i := 4) sc_law_bad_needs.nd rfl (by first | exact Or.inl rfl | exact Or.inr rfl) (de_op or_add (o_add (mk := false)) (de_lc rfl sc_law_bad_needs.nd (pi_list (dv 4)) io_list (blkOk_by (own := [(("_law_one" : Str), 10)]) (by kernel_rfl)) (GOk.name (by decide)) (fun _ _ _ _ _ => (pg_name (i := 10) sc_law_bad_needs.nd rfl (by first | exact Or.inl rfl | exact Or.inr rfl))) (fun _ _ _ _ _ => dts_nil) (fun _ _ _ _ _ => (de_op or_add (o_add (mk := false)) (de_op or_add (o_add (mk := false)) (dv 7) (de_lst (da_cons (dv 10) da_nil))) (dv 9)))) (de_lst (da_cons (pe_imp (pe_callTy call_tuple_of (by rfl) T.m_tuple (by decide +kernel) (da_cons (dv 1) da_nil)) (lift_cb o_tuple)) (da_cons (de_lst da_nil) (da_cons (de_op or_mul (o_mul (mk := false)) (de_lst (da_cons (de_lst da_nil) da_nil)) de_int) (da_cons de_non (da_cons de_int (da_cons de_str (da_cons de_dnewF (da_cons de_bl da_nil)))))))))))
  (dss_one (ds_ret (de_ix (dv 4) (de_ix (de_lst (da_cons de_int (da_cons de_int (da_cons (pe_imp (pe_call (ok_law_draw T) (hr.mono (by decide)) (by rfl) T.g__law_draw T.F__law_draw.kp T.b__law_draw .nil passAny (da_cons (dv 0) (da_cons (pe_imp (pe_callB c_len (by rfl) T.m_len (by decide +kernel) (da_cons (dv 4) da_nil)) (lift_cb o_len)) da_nil))) (lift_call fun _ => .nil)) da_nil)))) (pe_imp (pe_call (ok_law_draw T) (hr.mono (by decide)) (by rfl) T.g__law_draw T.F__law_draw.kp T.b__law_draw .nil passAny (da_cons (dv 0) (da_cons de_int da_nil))) (lift_call fun _ => .nil))))))))))))), ?_⟩)
  rintro _ m Q Ex ⟨p0, p1, rfl, h⟩
  change (_ : TDS) _ [some p0, some p1, none, none, none, none, none, none, none, none, none] m
  obtain ⟨s, p, rs, N, rfl, rfl, hN, hs, hr, h1, h2, hrs, hps, h⟩ := h
  have hp := hr.1
  exists hp
  refine draw_ok hs (by omega) (by simp; omega) (by simp; omega) fun d1 m1 a1 b1 f1 hs1 => ?_
  rw [List.length_map] at b1
  have hr1 := hr.but f1 hps hrs
  have hp1 := hr1.1
  exists hp1, List.length_map
  refine ⟨cpow (by decide) (by decide +kernel) (by decide) (by decide), cpow (by decide) (by decide +kernel) (by decide) (by decide), draw_ok hs1 (by omega) (by omega) (by omega) fun d2 m2 a2 b2 f2 hs2 => ?_⟩
  obtain ⟨odd, hodd, fodd⟩ := all_at (P := Fit 50 2) (i := d2) (xs := [.int d1, .int rs.length, .int (-1), .bl true, .bl false, .non, .str "0", .lst [.int 0], .tup [.int 0], .int (10 ^ 30), .int (0 - 10 ^ 30)])
    (all_cons ((fit_small a1 (by omega)).mono (by decide) (by decide)) (all_cons ((fit_small (by omega) (by omega)).mono (by decide) (by decide)) (all_cons ((fit_int (k := 3) (by decide) (by decide) (by decide)).mono (by decide) (by decide))
    (all_cons (fit_bl.mono (by decide) (by decide)) (all_cons (fit_bl.mono (by decide) (by decide)) (all_cons (fit_non.mono (by decide) (by decide)) (all_cons (Fit.mk (w := 50) (dp := 2) rfl (by simp [toP, PyData.hasDict]) (by simp [toP, PyData.depth]) (by simp [toP, PyData.showable]) (by rw [toP, PyData.shown]; decide +kernel))
    (all_cons (.lst (n := 1) (w := 4) (k := 1) (all_cons (fit_small (by decide) (by decide)) all_nil) (by decide) (by decide) (by decide)) (all_cons (.tup (n := 1) (w := 4) (k := 1) (all_cons (fit_small (by decide) (by decide)) all_nil) (by decide) (by decide) (by decide))
    (all_cons ((fit_int (k := 31) (by decide) (by decide +kernel) (by decide)).mono (by decide) (by decide)) (all_cons ((fit_int (k := 31) (by decide) (by decide +kernel) (by decide)).mono (by decide) (by decide)) all_nil))))))))))) a2 b2
  have hr2 := hr1.but f2 hps hrs
  have hp2 := hr2.1
  exists hodd, hp2
  obtain ⟨j, rfl⟩ := Int.eq_ofNat_of_zero_le a1
  have hj : j < rs.length := by omega
  have hat : atI (rs.map D.ref) (j : Int) = some (.ref rs[j]) := atI_nat (by rw [List.getElem?_map, List.getElem?_eq_getElem hj]; rfl)
  have hmem := List.getElem_mem hj
  generalize rs[j] = r at hat hmem
  have hrs' := hrs r hmem
  obtain ⟨ns, hn, ho⟩ := hr2.2 r hmem
  have hl : ns.length ≤ 300 := ho.1
  exists hat, hp2, hn, List.length_map
  refine draw_ok hs2 (by omega) (by omega) (by omega) fun d3 m3 a3 b3 f3 hs3 => ?_
  have hr3 := hr2.but f3 hps hrs
  have hp3 := hr3.1
  have hn3 := (f3 r hrs').trans hn
  exists hn3, List.length_map
  obtain ⟨k, rfl⟩ := Int.eq_ofNat_of_zero_le a3
  have cl : (cutD (ns.map D.int) none (some (k : Int)) ++ [odd]).length + (cutD (ns.map D.int) (some (k : Int)) none).length ≤ 301 := by
    rw [cutD_to, cutD_from]; simp; omega
  have cl1 : (cutD (ns.map D.int) none (some (k : Int))).length ≤ 300 := by rw [cutD_to]; simp; omega
  have fi : ∀ x ∈ ns.map D.int, FitB s m3 50 2 x := fun x hx => by
    obtain ⟨i, hi, rfl⟩ := List.mem_map.mp hx
    exact .of ((fit_small (ho.2 i hi).1 (ho.2 i hi).2).mono (by decide) (by decide))
  have lns : (ns.map D.int).length ≤ 300 := by rw [List.length_map]; exact hl
  have big : 602 * 52 + 3 ≤ 40000 := by decide
  refine ⟨by omega, by omega, by omega, ?_⟩
  refine ⟨fun tau m' => ∃ os a, tau = [some (.ref s), some (.ref p), some odd, some (.int k), some (.lst os), some (.int j), some (.int rs.length), some (.lst (cutD (rs.map D.ref) none (some (j : Int)))), some (.ref r), some (.lst (cutD (rs.map D.ref) (some (j + 1 : Int)) none)), a] ∧ m3 = m' ∧ os.length ≤ 10 ∧ 1 ≤ os.length ∧ ∀ x ∈ os, FitB s m3 40000 3 x, ?_, ?_⟩
  · have f5 : ∀ x ∈ [D.lst (cutD (ns.map D.int) none (some (k : Int)) ++ [odd] ++ cutD (ns.map D.int) (some (k : Int)) none), .tup (ns.map D.int), .non, .lst (ns.map D.int ++ [.int rs.length]), .lst [.int j]], FitB s m3 40000 3 x := by
      refine all_cons (.lst (n := 602) (w := 50) (k := 2) (all_app (all_app ?_ (all_cons (.of fodd) all_nil)) ?_) (by rw [List.length_append]; omega) big (by decide)) ?_
      · rw [cutD_to]; exact all_take fi
      · rw [cutD_from]; exact all_drop fi
      refine all_cons (.tup (n := 602) (w := 50) (k := 2) fi (by omega) big (by decide)) ?_
      refine all_cons (.of (fit_non.mono (by decide) (by decide))) ?_
      refine all_cons (.lst (n := 602) (w := 50) (k := 2) (all_app fi (all_cons (.of ((fit_small (by omega) (by omega)).mono (by decide) (by decide))) all_nil)) (by simp; omega) big (by decide)) ?_
      exact all_cons (.lst (n := 602) (w := 50) (k := 2) (all_cons (.of ((fit_small (by omega) (by omega)).mono (by decide) (by decide))) all_nil) (by simp) big (by decide)) all_nil
    walk_at "t"
    refine eq_ints (ks := []) (pv_ints (lsD_ref hn3)) (.lst .nil) ?_
    walk_at "t"
    refine ifN (fun e => ?_) (fun e => ?_)
    · cases hns : ns with
      | nil => exact absurd hns e
      | cons n0 nr =>
      have hn0 : atI (ns.map D.int) 0 = some (.int n0) := by rw [hns]; exact at0
      rw [← hns]
      exists hn3, List.length_map, hn0
      have f0 := fi (.int n0) (by rw [hns]; exact List.mem_cons_self)
      exact ⟨by omega, _, _, rfl, by simp, by simp, all_app f5 (all_cons (.lst (n := 602) (w := 50) (k := 2) (all_app fi fi) (by simp; omega) big (by decide)) (all_cons (f0.mono (by decide) (by decide)) all_nil))⟩
    · walk_at "t"
      exact ⟨_, _, rfl, by simp, by simp, f5⟩
  · rintro tau m' ⟨os, a, rfl, rfl, ho1, ho2, ho3⟩
    walk_at "t"
    refine dlc_map os (fun x => .lst (cutD (rs.map D.ref) none (some (j : Int)) ++ [x] ++ cutD (rs.map D.ref) (some (j + 1 : Int)) none)) (walks_list fun _ h => ?_) (fun x hx m' Qe hq => ?_) (fun _ => ?_)
    · walk_at "t"
      exact h
    · walk_at "t"
      refine ⟨?_, ?_, hq⟩
      · rw [cutD_to]; simp; omega
      · rw [cutD_to, show ((j : Int) + 1) = ((j + 1 : Nat) : Int) from rfl, cutD_from]; simp; omega
    · exists hp3
      have hrow : ∀ x ∈ rs.map D.ref, FitB s m3 40000 3 x := fun x hx => (fitB_rows hr3 hrs (by decide) x hx).mono (by decide) (by decide)
      have lrow : (rs.map D.ref).length ≤ 60 := by rw [List.length_map]; exact h2
      have big2 : 130 * (40000 + 2) + 3 ≤ 5300000 := by decide
      have big3 : 62 * (40000 + 2) + 3 ≤ 3000000 := by decide
      have hall : ∀ x ∈ os.map (fun x => D.lst (cutD (rs.map D.ref) none (some (j : Int)) ++ [x] ++ cutD (rs.map D.ref) (some (j + 1 : Int)) none)) ++ [D.tup (rs.map D.ref), D.lst [], D.lst (List.replicate 61 [D.lst []]).flatten, D.non, D.int 0, D.str "", D.dic [], D.bl true], FineB s m3 x := by
        refine all_app (fun x hx => ?_) ?_
        · obtain ⟨y, hy, rfl⟩ := List.mem_map.mp hx
          refine (FitB.lst (n := 62) (w := 40000) (k := 3) (all_app (all_app ?_ (all_cons (ho3 y hy) all_nil)) ?_) ?_ big3 (Nat.le_refl _)).fine (Nat.le_refl _) (by decide)
          · rw [cutD_to]; exact all_take hrow
          · rw [show ((j : Int) + 1) = ((j + 1 : Nat) : Int) from rfl, cutD_from]; exact all_drop hrow
          · rw [cutD_to, show ((j : Int) + 1) = ((j + 1 : Nat) : Int) from rfl, cutD_from]; simp; omega
        · have e0 : Fit 10 2 (.lst []) := .lst (n := 0) (w := 0) (k := 1) all_nil (Nat.le_refl _) (by decide) (by decide)
          refine all_cons ((FitB.tup (n := 62) (w := 40000) (k := 3) hrow (by omega) big3 (Nat.le_refl _)).fine (Nat.le_refl _) (by decide)) (all_cons ((FitB.of e0).fine (by decide) (by decide)) (all_cons ?_ (all_cons ((FitB.of fit_non).fine (by decide) (by decide)) (all_cons ((FitB.of (fit_small (by decide) (by decide))).fine (by decide) (by decide))
            (all_cons ((FitB.of (Fit.mk (w := 50) (dp := 2) rfl (by simp [toP, PyData.hasDict]) (by simp [toP, PyData.depth]) (by simp [toP, PyData.showable]) (by rw [toP, PyData.shown]; decide +kernel))).fine (by decide) (by decide)) (all_cons (fun m' _ => ⟨_, .same _, .inr rfl⟩) (all_cons ((FitB.of fit_bl).fine (by decide) (by decide)) all_nil)))))))
          refine (FitB.of (Fit.lst (n := 61) (w := 10) (k := 2) (fun x hx => ?_) (by decide) (Nat.le_refl _) (Nat.le_refl _))).fine (by decide) (by decide)
          have : x = .lst [] := by
            obtain ⟨l, hl, hx⟩ := List.mem_flatten.mp hx
            rw [List.eq_of_mem_replicate hl] at hx
            exact List.mem_singleton.mp hx
          rw [this]; exact e0
      have lal : (os.map (fun x => D.lst (cutD (rs.map D.ref) none (some (j : Int)) ++ [x] ++ cutD (rs.map D.ref) (some (j + 1 : Int)) none)) ++ [D.tup (rs.map D.ref), D.lst [], D.lst (List.replicate 61 [D.lst []]).flatten, D.non, D.int 0, D.str "", D.dic [], D.bl true]).length = os.length + 8 := by simp
      refine ⟨by decide, by rw [List.length_map]; omega, ?_⟩
      generalize (os.map (fun x => D.lst (cutD (rs.map D.ref) none (some (j : Int)) ++ [x] ++ cutD (rs.map D.ref) (some (j + 1 : Int)) none)) ++ [D.tup (rs.map D.ref), D.lst [], D.lst (List.replicate 61 [D.lst []]).flatten, D.non, D.int 0, D.str "", D.dic [], D.bl true]) = al at hall lal ⊢
      refine draw_ok hs3 (by omega) (by omega) (by omega) fun d4 m4 a4 b4 f4 hs4 => ?_
      walk_at "t"
      refine draw_ok hs4 (by omega) (by omega) (by omega) fun d5 m5 a5 b5 f5 hs5 => ?_
      obtain ⟨x, hx, z, rfl, hz1, hz2⟩ := pick3 (P := fun x => ∃ z : Int, x = .int z ∧ 0 ≤ z ∧ z < al.length) (a := .int 0) (b := .int 0) (c := .int d4) a5 b5 ⟨_, rfl, by omega, by omega⟩ ⟨_, rfl, by omega, by omega⟩ ⟨_, rfl, by omega, by omega⟩
      exists hx
      obtain ⟨v, hv, fv⟩ := all_at hall hz1 hz2
      exists hv
      obtain ⟨e, ve, fe⟩ := fv m5 (f4.trans f5)
      exact gq (h v e m5 (((f1.trans f2).trans f3).trans (f4.trans f5)) (hs5.mono (by omega)) ve fe)
end
/-! ### _law_checked -/
theorem repr_fine {m : Mu} {Q : DQ} {e : D} (h : Fine e) (k : ∀ x : Str, (∀ m' Q', Q' (.str x) m' → rdRepr [e] m' Q') → Q (.str x) m) : rdRepr [e] m Q := by
  rcases h with h | rfl
  · refine ⟨e, rfl, .inl ⟨_, PV.fit h, h.sh, ?_, Nat.le_trans h.dp (by decide), k _ fun m' Q' q => ⟨e, rfl, .inl ⟨_, PV.fit h, h.sh, ?_, Nat.le_trans h.dp (by decide), q⟩⟩⟩⟩
    all_goals (rw [sizeLine_eq]; exact Nat.le_trans h.ln (by decide))
  · exact ⟨_, rfl, .inr ⟨rfl, k _ fun m' Q' q => ⟨_, rfl, .inr ⟨rfl, q⟩⟩⟩⟩
def sp_law_checked : DSp := sp1 fun d m Q _ => Fine d ∧ Q (.bl true) m
section
variable {P : Program} {w : World} {K : PySem.W.Frag} {mg : Str → Option Value} {base : Heap} {Ad : Adr}
set_option maxHeartbeats 4000000 in
theorem ok_law_checked (T : Txt K mg Ad) : FnG P w K mg base CX0 4 Ad.a__law_checked Ad.d__law_checked ["_law_value"] (spD K sp_law_checked) := by
  refine DL.Fun.okDG T.F__law_checked sc_law_checked sp1_len (fun cdv A outer s H E gd hr => ⟨_, (dss_cons (ds_set (i := 1) sc_law_checked.nd rfl (by first | exact Or.inl rfl | exact Or.inr rfl) (pe_imp (pe_callB (c_repr gd (hu65 hr)) (by rfl) T.m_repr (by decide +kernel) (da_cons (dv 0) da_nil)) (lift_cb o_repr)))
  (dss_cons (ds_set (i := 2) sc_law_checked.nd rfl (by first | exact Or.inl rfl | exact Or.inr rfl) (pe_imp (pe_call (ok_is_needs T) (hr.mono (by decide)) (by rfl) T.g_is_needs T.F_is_needs.kp T.b_is_needs .nil passAny (da_cons (dv 0) da_nil)) (lift_call fun _ => .nil)))
  (dss_one (ds_ret (de_and (pe_imp (pe_callB call_isi (by rfl) T.m_isinstance (by decide +kernel) (da_cons (dv 2) (da_cons (de_bty (n := "bool") (by rfl) T.m_bool (by decide +kernel)) da_nil))) (lift_cb (o_isT kf_bool))) (de_and (de_cmp (op_eqA (hu64 hr)) o_eq (dv 2) (pe_imp (pe_call (ok_law_is_fine T) (hr.mono (by decide)) (by rfl) T.g__law_is_fine T.F__law_is_fine.kp T.b__law_is_fine .nil passAny (da_cons (dv 0) da_nil)) (lift_call fun _ => .nil)) (nomark _)) (de_one (de_cmp (op_eqA (hu64 hr)) o_eq (pe_imp (pe_callB (c_repr gd (hu65 hr)) (by rfl) T.m_repr (by decide +kernel) (da_cons (dv 0) da_nil)) (lift_cb o_repr)) (dv 1) (nomark _))))))))), ?_⟩)
  rintro _ m Q Ex ⟨p0, rfl, h⟩
  change (_ : TDS) _ [some p0, none, none] m
  obtain ⟨g, h⟩ := h
  walk_at "t"
  refine repr_fine g fun x hx => ?_
  walk_at "t"
  refine ⟨_, rfl, g.good, ?_⟩
  walk_at "t"
  refine ⟨_, rfl, g.good, ?_⟩
  walk_at "t"
  refine hx _ _ ?_
  walk_at "t"
  exact gq h
end
/-! ### _law_holds -/
def rowD (ns : List Int) : D := .lst (ns.map D.int)
theorem rows_view {m : Mu} {B : Nat} : ∀ {rs : List Addr}, (∀ r ∈ rs, ∃ ns : List Int, m r = some (.lst (ns.map D.int)) ∧ okRow B ns) → ∃ nss : List (List Int), Vws m (fun _ => true) (rs.map D.ref) (nss.map rowD) ∧ nss.length = rs.length ∧
    (∀ (k : Nat) r ns, rs[k]? = some r → nss[k]? = some ns → m r = some (.lst (ns.map D.int))) ∧ ∀ ns ∈ nss, okRow B ns
  | [], _ => ⟨[], .nil, rfl, fun k r ns h => by simp at h, fun ns h => nomatch h⟩
  | r :: rs, h => by
    obtain ⟨nss, v, l, e, o⟩ := rows_view (rs := rs) fun q hq => h q (List.mem_cons_of_mem _ hq)
    obtain ⟨ns, e1, o1⟩ := h r List.mem_cons_self
    refine ⟨ns :: nss, .cons (.ref e1 rfl (.same _)) v, by rw [List.length_cons, l]; rfl, fun k r' ns' h1 h2 => ?_, fun q hq => ?_⟩
    · cases k with
      | zero => simp at h1 h2; subst h1 h2; exact e1
      | succ k => exact e k r' ns' (by simpa using h1) (by simpa using h2)
    · rcases List.mem_cons.mp hq with rfl | hq
      · exact o1
      · exact o q hq
theorem fine_rows {B : Nat} {nss : List (List Int)} (h : ∀ ns ∈ nss, okRow B ns) (hB : B ≤ 320) (hl : nss.length ≤ 60) : Fine (.lst (nss.map rowD)) := .inl (.lst (n := 60) (w := 2000) (k := 2) (fun x hx => by
  obtain ⟨ns, hns, rfl⟩ := List.mem_map.mp hx
  have o := h ns hns
  exact .lst (n := 320) (w := 4) (k := 1) (fun y hy => by
    obtain ⟨i, hi, rfl⟩ := List.mem_map.mp hy
    exact fit_small (o.2 i hi).1 (o.2 i hi).2) (by rw [List.length_map]; exact Nat.le_trans o.1 hB) (by decide) (by decide)) (by rw [List.length_map]; exact hl) (by decide) (by decide))
theorem needs_rows {nss : List (List Int)} (h0 : 1 ≤ nss.length) (h1 : nss.length ≤ 60) (h : ∀ (k : Nat) ns, nss[k]? = some ns → ascD ns = true ∧ ∀ x ∈ ns, 0 ≤ x ∧ x < nss.length ∧ x ≠ k) : needsD (.lst (nss.map rowD)) = true := by
  show needsL (nss.map rowD) = true
  unfold needsL
  rw [List.length_map, decide_eq_true (by omega), decide_eq_true (by omega), Bool.true_and, Bool.true_and, List.all_eq_true]
  intro x hx
  obtain ⟨k, hk⟩ := List.mem_iff_getElem?.mp hx
  rw [enumD_get, List.getElem?_map] at hk
  cases e : nss[k]? with
  | none => rw [e] at hk; cases hk
  | some ns =>
    rw [e] at hk
    cases hk
    obtain ⟨a, b⟩ := h k ns e
    show entryL _ _ (ns.map D.int) = true
    unfold entryL
    rw [intsOf_map]
    dsimp only
    rw [a, Bool.and_true, List.all_eq_true]
    intro y hy
    obtain ⟨i, hi, rfl⟩ := List.mem_map.mp hy
    obtain ⟨b1, b2, b3⟩ := b i hi
    show (decide (0 ≤ i) && decide (i ≤ (nss.length : Int) - 1) && !decide (i = ((0 + k : Nat) : Int))) = true
    rw [Nat.zero_add, decide_eq_true b1, decide_eq_true (by omega), decide_eq_false b3]; rfl
theorem erase_map {f : Int → D} : ∀ (ns : List Int) (k : Nat), (ns.map f).eraseIdx k = (ns.eraseIdx k).map f
  | [], _ => rfl
  | _ :: _, 0 => rfl
  | n :: r, k + 1 => by
    show f n :: (r.map f).eraseIdx k = _
    rw [erase_map r k]; rfl
def sp_law_holds : DSp := sp2 fun x y m Q _ => ∃ (s : Addr) (most : Int), x = .ref s ∧ y = .int most ∧ 1 ≤ most ∧ most ≤ 60 ∧ Src m s 0 ∧ ∀ m', Q (.bl true) m'
theorem RowsAt.ne {m : Mu} {p : Addr} {rs : List Addr} {B : Nat} (h : RowsAt m p rs B) {r : Addr} (hr : r ∈ rs) : r ≠ p := fun z => by
  obtain ⟨ns, e, _⟩ := h.2 r hr
  rw [z, h.1] at e
  cases rs with
  | nil => cases hr
  | cons a l =>
    cases ns with
    | nil => cases e
    | cons n t =>
      simp only [List.map_cons, Option.some.injEq, MO.lst.injEq, List.cons.injEq] at e
      exact nomatch e.1
theorem RowsAt.upd {m : Mu} {p : Addr} {rs : List Addr} {B B' : Nat} (h : RowsAt m p rs B) {r : Addr} (hr : r ∈ rs) {ns : List Int} (o : okRow B' ns) (hB : B ≤ B') : RowsAt (updM m r (.lst (ns.map D.int))) p rs B' := ⟨(updM_ne (h.ne hr).symm).trans h.1, fun q hq => by
  by_cases z : q = r
  · rw [z]; exact ⟨ns, updM_same, o⟩
  · obtain ⟨ks, e, o1⟩ := h.2 q hq
    exact ⟨ks, (updM_ne z).trans e, Nat.le_trans o1.1 hB, o1.2⟩⟩
theorem RowsAt.view {m : Mu} {p : Addr} {rs : List Addr} {B : Nat} (h : RowsAt m p rs B) (hB : B ≤ 320) (hl : rs.length ≤ 60) : ∃ e, Vws m (fun _ => true) [.ref p] [e] ∧ Fine e := by
  obtain ⟨nss, vw, ln, _, on⟩ := rows_view h.2
  exact ⟨_, .cons (.ref h.1 rfl vw) .nil, fine_rows on hB (by omega)⟩
section
variable {P : Program} {w : World} {K : PySem.W.Frag} {mg : Str → Option Value} {base : Heap} {Ad : Adr}
set_option maxHeartbeats 4000000 in
theorem ok_law_holds (T : Txt K mg Ad) : FnG P w K mg base CX0 5 Ad.a__law_holds Ad.d__law_holds ["_law_source_here", "_law_most"] (spD K sp_law_holds) := by
  refine DL.Fun.okDG T.F__law_holds sc_law_holds sp2_len (fun cdv A outer s H E gd hr => ⟨_, (dss_cons (ds_set (i := 2) sc_law_holds.nd rfl (by first | exact Or.inl rfl | exact Or.inr rfl) (pe_imp (pe_call (ok_law_needs T) (hr.mono (by decide)) (by rfl) T.g__law_needs T.F__law_needs.kp T.b__law_needs .nil passAny (da_cons (dv 0) (da_cons (dv 1) da_nil))) (lift_call fun _ => .nil)))
  (dss_cons (ds_if (PW.pt (dw_or (dt_not (dt_val (pe_imp (pe_call (ok_law_is_fine T) (hr.mono (by decide)) (by rfl) T.g__law_is_fine T.F__law_is_fine.kp T.b__law_is_fine .nil passAny (da_cons (dv 2) da_nil)) lift_lend))) (dw_or1 (dt_not (dt_val (pe_imp (pe_callG gd (ok_law_checked T) (hr.mono (by decide)) (by rfl) T.g__law_checked T.F__law_checked.kp T.b__law_checked .nil passAny (da_cons (dv 2) da_nil)) lift_lend)))))) (dss_one (ds_ret de_bl)) dss_nil)
  (dss_cut (ds_for [3] PassesOwn.never rfl (pi_range1 (by rfl) T.m_range (da_cons de_int da_nil)) io_r1 (pg_name (i := 3) sc_law_holds.nd rfl (by first | exact Or.inl rfl | exact Or.inr rfl)) (GOk.name (by decide))
  (dss_one (ds_if (dt_not (dt_val (pe_imp (pe_callG gd (ok_law_checked T) (hr.mono (by decide)) (by rfl) T.g__law_checked T.F__law_checked.kp T.b__law_checked .nil passAny (da_cons (pe_imp (pe_call (ok_law_bad_needs T) (hr.mono (by decide)) (by rfl) T.g__law_bad_needs T.F__law_bad_needs.kp T.b__law_bad_needs .nil passAny (da_cons (dv 0) (da_cons (dv 2) da_nil))) (lift_call fun _ => .nil)) da_nil)) lift_lend))) (dss_one (ds_ret de_bl)) dss_nil)))
  (dss_cut (ds_for [3] PassesOwn.never rfl (pi_range1 (by rfl) T.m_range (da_cons de_int da_nil)) io_r1 (pg_name (i := 3) sc_law_holds.nd rfl (by first | exact Or.inl rfl | exact Or.inr rfl)) (GOk.name (by decide))
  (dss_cons (ds_set (i := 4) sc_law_holds.nd rfl (by first | exact Or.inl rfl | exact Or.inr rfl) (de_ix (dv 2) (pe_imp (pe_call (ok_law_draw T) (hr.mono (by decide)) (by rfl) T.g__law_draw T.F__law_draw.kp T.b__law_draw .nil passAny (da_cons (dv 0) (da_cons (pe_imp (pe_callB c_len (by rfl) T.m_len (by decide +kernel) (da_cons (dv 2) da_nil)) (lift_cb o_len)) da_nil))) (lift_call fun _ => .nil))))
  (dss_cons (ps_imp (ps_par (i := 5) (j := 6) rfl sc_law_holds.nd rfl rfl (by decide) rfl rfl (da_cons (pe_imp (pe_call (ok_law_draw T) (hr.mono (by decide)) (by rfl) T.g__law_draw T.F__law_draw.kp T.b__law_draw .nil passAny (da_cons (dv 0) (da_cons de_int da_nil))) (lift_call fun _ => .nil)) (da_cons (pe_imp (pe_call (ok_law_draw T) (hr.mono (by decide)) (by rfl) T.g__law_draw T.F__law_draw.kp T.b__law_draw .nil passAny (da_cons (dv 0) (da_cons (de_op or_add (o_add (mk := false)) (pe_imp (pe_callB c_len (by rfl) T.m_len (by decide +kernel) (da_cons (dv 2) da_nil)) (lift_cb o_len)) de_int) da_nil))) (lift_call fun _ => .nil)) da_nil)) (by rfl)) lift_par)
  (dss_cut (ds_if (dt_cmp (op_eqA (hu64 hr)) o_eq (dv 5) de_int (nomark _)) (dss_one (ds_expr (pe_imp (pe_bm PySem.F.plainAttrs_list PySem.F.slot_list_append PySem.F.type_list_append mt_append (dv 4) (da_cons (dv 6) da_nil)) (lift_bm tyL_ok o_append)))) (dss_one (ds_if (PW.pt (dw_and (dt_cmp (op_eqA (hu64 hr)) o_eq (dv 5) de_int (nomark _)) (dw_and1 (dt_cmp (op_neA (hu64 hr)) o_ne (dv 4) (de_lst da_nil) (nomark _))))) (dss_one (ds_expr (pe_imp (pe_bm PySem.F.plainAttrs_list PySem.F.slot_list_pop PySem.F.type_list_pop mt_popAt (dv 4) (da_cons (pe_imp (pe_call (ok_law_draw T) (hr.mono (by decide)) (by rfl) T.g__law_draw T.F__law_draw.kp T.b__law_draw .nil passAny (da_cons (dv 0) (da_cons (pe_imp (pe_callB c_len (by rfl) T.m_len (by decide +kernel) (da_cons (dv 4) da_nil)) (lift_cb o_len)) da_nil))) (lift_call fun _ => .nil)) da_nil)) (lift_bm tyL_ok o_popAt)))) (dss_one (ds_expr (pe_imp (pe_bm0 PySem.F.plainAttrs_list PySem.F.slot_list_reverse PySem.F.type_list_reverse mt_reverse (dv 4)) (lift_bm0 tyL_ok o_reverse)))))))
  (dss_one (ds_if (dt_not (dt_val (pe_imp (pe_callG gd (ok_law_checked T) (hr.mono (by decide)) (by rfl) T.g__law_checked T.F__law_checked.kp T.b__law_checked .nil passAny (da_cons (dv 2) da_nil)) lift_lend))) (dss_one (ds_ret de_bl)) dss_nil))))))
  (dss_one (ds_ret (de_and (de_cmp op_is_bl o_isB (pe_imp (pe_call (ok_is_needs T) (hr.mono (by decide)) (by rfl) T.g_is_needs T.F_is_needs.kp T.b_is_needs .nil passAny (da_cons (de_op or_mul (o_mul (mk := false)) (de_lst (da_cons (de_lst da_nil) da_nil)) de_int) da_nil)) (lift_call fun _ => .nil)) de_bl (nomark _)) (de_one (de_cmp op_is_bl o_isB (pe_imp (pe_call (ok_is_needs T) (hr.mono (by decide)) (by rfl) T.g_is_needs T.F_is_needs.kp T.b_is_needs .nil passAny (da_cons (de_op or_add (o_add (mk := false)) (de_lst (da_cons (pe_imp (pe_listRg rfl (by rfl) T.m_list (prg_2 (by rfl) T.m_range de_int de_int)) (lift_rg2 (mk := false))) da_nil)) (de_op or_mul (o_mul (mk := false)) (de_lst (da_cons (de_lst da_nil) da_nil)) de_int)) da_nil)) (lift_call fun _ => .nil)) de_bl (nomark _)))))))))), ?_⟩)
  rintro _ m Q Ex ⟨p0, p1, rfl, h⟩
  change (_ : TDS) _ [some p0, some p1, none, none, none, none, none] m
  obtain ⟨s, most, rfl, rfl, h1, h2, hs, h⟩ := h
  walk_at "t"
  refine ⟨_, _, rfl, s, most, 0, rfl, rfl, h1, h2, by decide, hs, fun p rs m1 hs1 ob np nr l1 l2 ra rv => ?_⟩
  obtain ⟨nss, vw, ln, en, on⟩ := rows_view ra.2
  have vp : Vw m1 (fun _ => true) (.ref p) (.lst (nss.map rowD)) := .ref ra.1 rfl vw
  have fn := fine_rows on (by decide) (by omega)
  have nn : needsD (.lst (nss.map rowD)) = true := needs_rows (by omega) (by omega) fun k ns e => by
    have hk := (List.getElem?_eq_some_iff.mp e).1
    obtain ⟨ns', e1, a, b⟩ := rv k rs[k] (List.getElem?_eq_getElem (by omega))
    have e2 := en k rs[k] ns (List.getElem?_eq_getElem (by omega)) e
    rw [e1] at e2
    have : ns' = ns := by
      simp only [Option.some.injEq, MO.lst.injEq] at e2
      exact (List.map_inj_right (fun a b h => by cases h; rfl)).mp e2
    subst this
    exact ⟨a, by rw [ln]; exact b⟩
  walk_at "t"
  refine ⟨[_], .cons vp .nil, _, rfl, fn.good, rfl, ?_⟩
  rw [nn]
  walk_at "t"
  refine ⟨[_], .cons vp .nil, _, rfl, fn, rfl, ?_⟩
  walk_at "t"
  have hps := hs.ne np
  have hrs : ∀ r ∈ rs, r ≠ s := fun r hr => hs.ne (nr r hr)
  refine ⟨fun tau m' => ∃ a b c d, tau = [some (.ref s), some (.int most), some (.ref p), a, b, c, d] ∧ Src m' s 2000 ∧ RowsAt m' p rs 200, ?_, ?_⟩
  · refine dfor_inv (ok := fun _ => True) (rangeD 0 (6 : Int).toNat) (fun i tau m' => ∃ a b c d, tau = [some (.ref s), some (.int most), some (.ref p), a, b, c, d] ∧ i ≤ 6 ∧ Src m' s (1000 + 10 * i) ∧ RowsAt m' p rs 200)
      (walks_range (by decide) (by decide) fun _ h => ?_).k (fun _ => ⟨_, _, _, _, rfl, by decide, hs1.mono (by decide), ra⟩) (fun _ _ _ _ => trivial) (fun i x tau m' hx i' => ?_) (fun tau m' i' => ?_)
    · walk_at "t"
      exact h
    · obtain ⟨_, _, _, _, rfl, hi, hs2, ra2⟩ := i'
      obtain ⟨rfl, hi6⟩ := range_get hx
      walk_at "t"
      refine ⟨_, _, rfl, s, p, rs, _, rfl, rfl, ?_, hs2, ⟨ra2.1, fun r hr => ?_⟩, l1, l2, hrs, hps, fun d e m2 f2 hs3 ve fe => ?_⟩
      · have : (i : Int) ≤ 6 := by omega
        omega
      · obtain ⟨ns, a, b⟩ := ra2.2 r hr
        exact ⟨ns, a, Nat.le_trans b.1 (by decide), b.2⟩
      walk_at "t"
      refine ⟨[e], .cons ve .nil, _, rfl, fe, rfl, ?_⟩
      walk_at "t"
      have : i < 6 := hi6
      exact ⟨_, _, _, _, rfl, by omega, hs3.mono (by omega), ra2.but f2 hps hrs⟩
    · obtain ⟨_, _, _, _, rfl, hi, hs2, ra2⟩ := i'
      exact ⟨_, _, _, _, rfl, hs2.mono (by omega), ra2⟩
  rintro tau m2 ⟨_, _, _, _, rfl, hs2, ra2⟩
  refine ⟨fun tau m' => True, ?_, ?_⟩
  · refine dfor_inv (ok := fun _ => True) (rangeD 0 (6 : Int).toNat) (fun i tau m' => ∃ a b c d, tau = [some (.ref s), some (.int most), some (.ref p), a, b, c, d] ∧ i ≤ 6 ∧ Src m' s (2000 + 10 * i) ∧ RowsAt m' p rs (200 + i))
      (walks_range (by decide) (by decide) fun _ h => ?_).k (fun _ => ⟨_, _, _, _, rfl, by decide, hs2.mono (by decide), ra2⟩) (fun _ _ _ _ => trivial) (fun i x tau m' hx i' => ?_) (fun tau m' i' => trivial)
    · walk_at "t"
      exact h
    · obtain ⟨_, _, _, _, rfl, hi, hs3, ra3⟩ := i'
      obtain ⟨rfl, hi6⟩ := range_get hx
      have hi6 : i < 6 := hi6
      have hp3 := ra3.1
      exists hp3, List.length_map
      refine draw_ok hs3 (by omega) (by omega) (by omega) fun d4 m4 a4 b4 f4 hs4 => ?_
      have ra4 := ra3.but f4 hps hrs
      have hp4 := ra4.1
      obtain ⟨j, rfl⟩ := Int.eq_ofNat_of_zero_le a4
      have hj : j < rs.length := by omega
      have hat : atI (rs.map D.ref) (j : Int) = some (.ref rs[j]) := atI_nat (by rw [List.getElem?_map, List.getElem?_eq_getElem hj]; rfl)
      have hmem := List.getElem_mem hj
      generalize rs[j] = r at hat hmem
      exists hp4, hat, List.length_map
      refine draw_ok hs4 (by omega) (by omega) (by omega) fun d5 m5 a5 b5 f5 hs5 => ?_
      have ra5 := ra4.but f5 hps hrs
      have hp5 := ra5.1
      exists hp5, List.length_map
      refine draw_ok hs5 (by omega) (by omega) (by omega) fun d6 m6 a6 b6 f6 hs6 => ?_
      have ra6 := ra5.but f6 hps hrs
      have hp6 := ra6.1
      obtain ⟨ns, hn, ho⟩ := ra6.2 r hmem
      have ho1 := ho.1
      have hrs' := hrs r hmem
      walk_at "t"
      refine ⟨fun tau m' => ∃ a b c d, tau = [some (.ref s), some (.int most), some (.ref p), a, b, c, d] ∧ Src m' s (2000 + 10 * (i + 1)) ∧ RowsAt m' p rs (200 + (i + 1)), ?_, ?_⟩
      · walk_at "t"
        refine ifD (fun e => ?_) (fun e => ?_)
        · exists hn, List.length_map
          refine ⟨by omega, _, _, _, _, rfl, (hs6.frame (updM_ne hrs'.symm)).mono (by omega), ?_⟩
          have := ra6.upd hmem (ns := ns ++ [d6]) (B' := 200 + (i + 1)) ⟨by rw [List.length_append, List.length_singleton]; omega, fun x hx => (List.mem_append.mp hx).elim (fun hx => ho.2 x hx) fun hx => by rw [List.mem_singleton.mp hx]; omega⟩ (by omega)
          rw [List.map_append] at this
          exact this
        · have pop : ∀ QQ : DQ, (∀ m7 d, Src m7 s (2000 + 10 * (i + 1)) → RowsAt m7 p rs (200 + (i + 1)) → QQ d m7) → ∀ (d7 : Int) m7, 0 ≤ d7 → d7 < ns.length → But s m6 m7 → Src m7 s (2000 + 10 * i + 4) → rdPopAt (.ref r) [.int d7] m7 QQ := fun QQ hQ d7 m7 a7 b7 f7 hs7 => by
            have ra7 := ra6.but f7 hps hrs
            have hn7 := (f7 r hrs').trans hn
            obtain ⟨k, rfl⟩ := Int.eq_ofNat_of_zero_le a7
            have hk : k < ns.length := by omega
            refine ⟨r, _, .int ns[k], k, k, rfl, rfl, hn7, by omega, by omega, ixN_nat (by rw [List.length_map]; exact hk), by rw [List.getElem?_map, List.getElem?_eq_getElem hk]; rfl, hQ _ _ ((hs7.frame (updM_ne hrs'.symm)).mono (by omega)) ?_⟩
            have := ra7.upd hmem (ns := ns.eraseIdx k) (B' := 200 + (i + 1)) ⟨by have := List.length_eraseIdx_le ns k; omega, fun x hx => ho.2 x (List.mem_of_mem_eraseIdx hx)⟩ (by omega)
            rw [← erase_map] at this
            exact this
          have rev : Src (updM m6 r (.lst (ns.map D.int).reverse)) s (2000 + 10 * (i + 1)) ∧ RowsAt (updM m6 r (.lst (ns.map D.int).reverse)) p rs (200 + (i + 1)) := by
            refine ⟨(hs6.frame (updM_ne hrs'.symm)).mono (by omega), ?_⟩
            have := ra6.upd hmem (ns := ns.reverse) (B' := 200 + (i + 1)) ⟨by rw [List.length_reverse]; omega, fun x hx => ho.2 x (List.mem_reverse.mp hx)⟩ (by omega)
            rw [List.map_reverse] at this
            exact this
          walk_at "t"
          refine ifD (fun e1 => ?_) (fun _ => ?_)
          · walk_at "t"
            refine eq_ints (ks := []) (pv_ints (lsD_ref hn)) (.lst .nil) ?_
            walk_at "t"
            refine ifN (fun hne => ?_) (fun _ => ?_)
            · exists hn, List.length_map
              have hl : 0 < ns.length := List.length_pos_iff.mpr hne
              refine draw_ok hs6 (by omega) (by omega) (by omega) fun d7 m7 a7 b7 f7 hs7 => ?_
              walk_at "t"
              exact pop _ (fun m8 d hs8 ra8 => ⟨_, _, _, _, rfl, hs8, ra8⟩) d7 m7 a7 b7 f7 (hs7.mono (by omega))
            · exists hn
              exact ⟨_, _, _, _, rfl, rev.1, rev.2⟩
          · exists hn
            exact ⟨_, _, _, _, rfl, rev.1, rev.2⟩
      · rintro tau m7 ⟨_, _, _, _, rfl, hs7, ra7⟩
        obtain ⟨e, ve, fe⟩ := ra7.view (by omega) l2
        walk_at "t"
        refine ⟨[e], ve, _, rfl, fe, rfl, ?_⟩
        walk_at "t"
        exact ⟨_, _, _, _, rfl, by omega, hs7.mono (by omega), ra7⟩
  rintro tau m3 -
  walk_at "t"
  refine ⟨by decide, _, rfl, ⟨by decide +kernel, fun _ => by decide +kernel, by decide +kernel⟩, ?_⟩
  rw [show needsD (.lst (List.replicate 60 [D.lst []]).flatten) = true by decide +kernel]
  walk_at "t"
  refine ⟨⟨by decide, by decide, by decide, by decide, by decide⟩, by decide, by decide +kernel, _, rfl, ⟨by decide +kernel, fun _ => by decide +kernel, by decide +kernel⟩, ?_⟩
  rw [show needsD (.lst (.lst (rangeD 1 (60 - 1 : Int).toNat) :: (List.replicate 59 [D.lst []]).flatten)) = true by decide +kernel]
  walk_at "t"
  exact gq (h _)
end
/-! ### law -/
section
variable {P : Program} {w : World} {K : PySem.W.Frag} {mg : Str → Option Value} {base : Heap} {Ad : Adr}
set_option maxHeartbeats 4000000 in
theorem ok_law (T : Txt K mg Ad) : FnG P w K mg base CX0 6 Ad.a_law Ad.d_law ["_law_script"] (spD K spTrue) := by
  refine DL.Fun.okDG T.F_law sc_law (fun _ _ _ _ ⟨_, e, _⟩ => by rw [e]; rfl) (fun cdv A outer s H E gd hr => ⟨_, (dss_cons (ds_for [1, 2] PassesOwn.never rfl (pi_enum (by rfl) T.m_enumerate (da_cons (de_slice (mk := false) (de_op or_add (o_add (mk := false)) (dv 0) (de_lst (da_cons de_int da_nil))) do_none (do_some (pe_imp (pe_callB (callOr (call_max2 rfl) (cr_max rfl)) (by rfl) T.m_max (by decide +kernel) (da_cons de_int (da_cons (pe_imp (pe_callB (callOr (call_min2 rfl) (cr_min rfl)) (by rfl) T.m_min (by decide +kernel) (da_cons (pe_imp (pe_callB c_len (by rfl) T.m_len (by decide +kernel) (da_cons (dv 0) da_nil)) (lift_cb o_len)) (da_cons de_int da_nil))) (lift_cb o_min)) da_nil))) (lift_cb o_max)))) da_nil)) io_enum (pg_tup (n := 2) rfl (pgs_cons (pg_name (i := 1) sc_law.nd rfl (by first | exact Or.inl rfl | exact Or.inr rfl)) (pgs_cons (pg_name (i := 2) sc_law.nd rfl (by first | exact Or.inl rfl | exact Or.inr rfl)) pgs_nil))) (GOk.tup (GsOk.cons (GOk.name (by decide)) (GsOk.cons (GOk.name (by decide)) GsOk.nil)))
  (dss_one (ds_if (dt_not (dt_val (pe_imp (pe_callG gd (ok_law_holds T) (hr.mono (by decide)) (by rfl) T.g__law_holds T.F__law_holds.kp T.b__law_holds .nil passAny (da_cons (pe_imp (pe_call (ok_law_source T) (hr.mono (by decide)) (by rfl) T.g__law_source T.F__law_source.kp T.b__law_source .nil passAny (da_cons (dv 2) (da_cons (dv 1) da_nil))) (lift_call fun _ => .nil)) (da_cons (de_if (dt_cmp (op_eqA (hu64 hr)) o_eq (dv 0) (de_lst da_nil) (nomark _)) de_int de_int) da_nil))) (lift_call fun _ => .nil)))) (dss_one (ds_ret de_bl)) dss_nil)))
  (dss_one (ds_ret de_bl))), ?_⟩)
  rintro _ m Q Ex ⟨ns, rfl, hl, h⟩
  change (_ : TDS) _ [some (D.scr (ns.map D.int)), none, none] m
  walk_at "t"
  have hc : 0 ≤ (if (if (16 : Int) < ns.length then (16 : Int) else ns.length) > 1 then (if (16 : Int) < ns.length then (16 : Int) else ns.length) else 1) ∧ (if (if (16 : Int) < ns.length then (16 : Int) else ns.length) > 1 then (if (16 : Int) < ns.length then (16 : Int) else ns.length) else 1) ≤ 16 := by
    constructor <;> split <;> split <;> omega
  generalize hcc : (if (if (16 : Int) < ns.length then (16 : Int) else ns.length) > 1 then (if (16 : Int) < ns.length then (16 : Int) else ns.length) else 1) = c at hc
  obtain ⟨k, rfl⟩ := Int.eq_ofNat_of_zero_le hc.1
  have ecut : cutD (ns.map D.int ++ [.int 0]) none (some (k : Int)) = ((ns ++ [0]).take k).map D.int := by
    rw [cutD_to, List.map_take, List.map_append]; rfl
  generalize hks : (ns ++ [0]).take k = ks at ecut
  have lks : ks.length ≤ 16 := by rw [← hks, List.length_take]; omega
  refine dfor_inv (ok := fun m' => lsD m' (.lst (ks.map D.int)) = some (ks.map D.int)) (enumD 0 (ks.map D.int)) (fun i tau m' => ∃ a b, tau = [some (.scr (ns.map D.int)), a, b])
    (walksK_enum (d := .lst (ks.map D.int)) rfl fun _ h => ?_) (fun _ => ⟨_, _, rfl⟩) (fun _ _ _ _ => rfl) (fun i x tau m' hx i' => ?_) (fun tau m' i' => ?_)
  · walk_at "t"
    rw [List.length_map, hcc, ecut]
    exact ⟨by omega, h⟩
  · obtain ⟨_, _, rfl⟩ := i'
    rw [enumD_get, List.getElem?_map] at hx
    cases e : ks[i]? with
    | none => rw [e] at hx; cases hx
    | some cell =>
    rw [e] at hx
    cases hx
    have hi := (List.getElem?_eq_some_iff.mp e).1
    walk_at "t"
    refine ⟨_, _, rfl, cell, _, rfl, rfl, by omega, by omega, fun p m1 np bt hs => ?_⟩
    walk_at "t"
    refine eq_ints (ns := ns) (ks := []) (pv_ints rfl) (.lst .nil) ?_
    walk_at "t"
    have go : ∀ w : Int, 1 ≤ w → w ≤ 60 → ∀ (QQ : DQ) (EE : DX), (∀ m', QQ (.bl true) m') → sp_law_holds [.ref p, .int w] m1 QQ EE := fun w w1 w2 QQ EE hq => ⟨_, _, rfl, p, w, rfl, rfl, w1, w2, hs, hq⟩
    refine ifD (fun _ => ?_) (fun _ => ?_)
    · walk_at "t"
      refine go _ (by decide) (by decide) _ _ fun m2 => ?_
      walk_at "t"
      exact ⟨_, _, rfl⟩
    · walk_at "t"
      refine go _ (by decide) (by decide) _ _ fun m2 => ?_
      walk_at "t"
      exact ⟨_, _, rfl⟩
  · obtain ⟨_, _, rfl⟩ := i'
    walk_at "t"
    exact gq (h _)
end
theorem all_mk {l : PySem.W.OpenLaw} {w : World} {K : PySem.W.Frag} {h : Heap} {mg : Str → Option Value} {fa : Addr} (X : K.In h) (G : h.Ns mainGlobals mg) (hfa : mg "law" = some (.ref fa))
    {f0 f1 f2 f3 f4 f5 f6 f7 f8 f9 f10 f11 : Addr}
    {od0 an0 od1 an1 od2 an2 od3 an3 od4 an4 od5 an5 od6 an6 od7 an7 od8 an8 od9 an9 od10 an10 od11 an11 : Option Addr} {sl0 sl1 sl2 sl3 sl4 sl5 sl6 sl7 sl8 sl9 sl10 sl11 : Array (Option Value)} {oc0 kV0 dc0 pm0 cd0 ct0 oc1 kV1 dc1 pm1 cd1 ct1 oc2 kV2 dc2 pm2 cd2 ct2 oc3 kV3 dc3 pm3 cd3 ct3 oc4 kV4 dc4 pm4 cd4 ct4 oc5 kV5 dc5 pm5 cd5 ct5 oc6 kV6 dc6 pm6 cd6 ct6 oc7 kV7 dc7 pm7 cd7 ct7 oc8 kV8 dc8 pm8 cd8 ct8 oc9 kV9 dc9 pm9 cd9 ct9 oc10 kV10 dc10 pm10 cd10 ct10 oc11 kV11 dc11 pm11 cd11 ct11 : Value}
    {tMOST_TASKS : Tok}
    (a0 : PySem.W.nsIn K mainGlobals "is_integer" = some (some (.ref f0))) (l0 : K.lookup f0 = some ⟨oc0, od0, .func (PySem.W.fnOf "is_integer" "is_integer" (defArgs s_is_integer) (defBody s_is_integer) (defScope s_is_integer) .none kV0 dc0 pm0 an0 cd0 ct0), sl0⟩) (c0 : PySem.W.codeIn K cd0 "is_integer" = true) (k0 : PySem.W.keepIn K (.ref f0) = true)
    (a1 : PySem.W.nsIn K mainGlobals "is_entry" = some (some (.ref f1))) (l1 : K.lookup f1 = some ⟨oc1, od1, .func (PySem.W.fnOf "is_entry" "is_entry" (defArgs s_is_entry) (defBody s_is_entry) (defScope s_is_entry) .none kV1 dc1 pm1 an1 cd1 ct1), sl1⟩) (c1 : PySem.W.codeIn K cd1 "is_entry" = true) (k1 : PySem.W.keepIn K (.ref f1) = true)
    (a2 : PySem.W.nsIn K mainGlobals "is_needs" = some (some (.ref f2))) (l2 : K.lookup f2 = some ⟨oc2, od2, .func (PySem.W.fnOf "is_needs" "is_needs" (defArgs s_is_needs) (defBody s_is_needs) (defScope s_is_needs) .none kV2 dc2 pm2 an2 cd2 ct2), sl2⟩) (c2 : PySem.W.codeIn K cd2 "is_needs" = true) (k2 : PySem.W.keepIn K (.ref f2) = true)
    (a3 : PySem.W.nsIn K mainGlobals "_law_source" = some (some (.ref f3))) (l3 : K.lookup f3 = some ⟨oc3, od3, .func (PySem.W.fnOf "_law_source" "_law_source" (defArgs s_law_source) (defBody s_law_source) (defScope s_law_source) .none kV3 dc3 pm3 an3 cd3 ct3), sl3⟩) (c3 : PySem.W.codeIn K cd3 "_law_source" = true) (k3 : PySem.W.keepIn K (.ref f3) = true)
    (a4 : PySem.W.nsIn K mainGlobals "_law_draw" = some (some (.ref f4))) (l4 : K.lookup f4 = some ⟨oc4, od4, .func (PySem.W.fnOf "_law_draw" "_law_draw" (defArgs s_law_draw) (defBody s_law_draw) (defScope s_law_draw) .none kV4 dc4 pm4 an4 cd4 ct4), sl4⟩) (c4 : PySem.W.codeIn K cd4 "_law_draw" = true) (k4 : PySem.W.keepIn K (.ref f4) = true)
    (a5 : PySem.W.nsIn K mainGlobals "_law_listed" = some (some (.ref f5))) (l5 : K.lookup f5 = some ⟨oc5, od5, .func (PySem.W.fnOf "_law_listed" "_law_listed" (defArgs s_law_listed) (defBody s_law_listed) (defScope s_law_listed) .none kV5 dc5 pm5 an5 cd5 ct5), sl5⟩) (c5 : PySem.W.codeIn K cd5 "_law_listed" = true) (k5 : PySem.W.keepIn K (.ref f5) = true)
    (a6 : PySem.W.nsIn K mainGlobals "_law_needs" = some (some (.ref f6))) (l6 : K.lookup f6 = some ⟨oc6, od6, .func (PySem.W.fnOf "_law_needs" "_law_needs" (defArgs s_law_needs) (defBody s_law_needs) (defScope s_law_needs) .none kV6 dc6 pm6 an6 cd6 ct6), sl6⟩) (c6 : PySem.W.codeIn K cd6 "_law_needs" = true) (k6 : PySem.W.keepIn K (.ref f6) = true)
    (a7 : PySem.W.nsIn K mainGlobals "_law_is_fine" = some (some (.ref f7))) (l7 : K.lookup f7 = some ⟨oc7, od7, .func (PySem.W.fnOf "_law_is_fine" "_law_is_fine" (defArgs s_law_is_fine) (defBody s_law_is_fine) (defScope s_law_is_fine) .none kV7 dc7 pm7 an7 cd7 ct7), sl7⟩) (c7 : PySem.W.codeIn K cd7 "_law_is_fine" = true) (k7 : PySem.W.keepIn K (.ref f7) = true)
    (a8 : PySem.W.nsIn K mainGlobals "_law_bad_needs" = some (some (.ref f8))) (l8 : K.lookup f8 = some ⟨oc8, od8, .func (PySem.W.fnOf "_law_bad_needs" "_law_bad_needs" (defArgs s_law_bad_needs) (defBody s_law_bad_needs) (defScope s_law_bad_needs) .none kV8 dc8 pm8 an8 cd8 ct8), sl8⟩) (c8 : PySem.W.codeIn K cd8 "_law_bad_needs" = true) (k8 : PySem.W.keepIn K (.ref f8) = true)
    (a9 : PySem.W.nsIn K mainGlobals "_law_checked" = some (some (.ref f9))) (l9 : K.lookup f9 = some ⟨oc9, od9, .func (PySem.W.fnOf "_law_checked" "_law_checked" (defArgs s_law_checked) (defBody s_law_checked) (defScope s_law_checked) .none kV9 dc9 pm9 an9 cd9 ct9), sl9⟩) (c9 : PySem.W.codeIn K cd9 "_law_checked" = true) (k9 : PySem.W.keepIn K (.ref f9) = true)
    (a10 : PySem.W.nsIn K mainGlobals "_law_holds" = some (some (.ref f10))) (l10 : K.lookup f10 = some ⟨oc10, od10, .func (PySem.W.fnOf "_law_holds" "_law_holds" (defArgs s_law_holds) (defBody s_law_holds) (defScope s_law_holds) .none kV10 dc10 pm10 an10 cd10 ct10), sl10⟩) (c10 : PySem.W.codeIn K cd10 "_law_holds" = true) (k10 : PySem.W.keepIn K (.ref f10) = true)
    (a11 : PySem.W.nsIn K mainGlobals "law" = some (some (.ref f11))) (l11 : K.lookup f11 = some ⟨oc11, od11, .func (PySem.W.fnOf "law" "law" (defArgs s_law) (defBody s_law) (defScope s_law) .none kV11 dc11 pm11 an11 cd11 ct11), sl11⟩) (c11 : PySem.W.codeIn K cd11 "law" = true) (k11 : PySem.W.keepIn K (.ref f11) = true)
    (zall : PySem.W.nsIn K mainGlobals "all" = some none)
    (zbool : PySem.W.nsIn K mainGlobals "bool" = some none)
    (zenumerate : PySem.W.nsIn K mainGlobals "enumerate" = some none)
    (zint : PySem.W.nsIn K mainGlobals "int" = some none)
    (zisinstance : PySem.W.nsIn K mainGlobals "isinstance" = some none)
    (zlen : PySem.W.nsIn K mainGlobals "len" = some none)
    (zlist : PySem.W.nsIn K mainGlobals "list" = some none)
    (zmax : PySem.W.nsIn K mainGlobals "max" = some none)
    (zmin : PySem.W.nsIn K mainGlobals "min" = some none)
    (zrange : PySem.W.nsIn K mainGlobals "range" = some none)
    (zrepr : PySem.W.nsIn K mainGlobals "repr" = some none)
    (zsorted : PySem.W.nsIn K mainGlobals "sorted" = some none)
    (ztuple : PySem.W.nsIn K mainGlobals "tuple" = some none)
    (zzip : PySem.W.nsIn K mainGlobals "zip" = some none)
    (yMOST_TASKS : PySem.W.nsIn K mainGlobals "MOST_TASKS" = some (some (.int 60 tMOST_TASKS)))
    : ∃ fd : FuncData, (∀ (s : Shared) (v : Value), BindsTo s fd ⟨[v], []⟩ [("_law_script", v)]) ∧ ∀ base : Heap, K.In base → base.Ns mainGlobals mg → FnG l.prog w K mg base CX0 6 fa fd ["_law_script"] (spD K spTrue) := by
  have e := hfa.symm.trans (PySem.W.mg_of X G a11)
  cases e
  have F0 := fun_mk (st := s_is_integer) l0 c0 k0
  have b0 := F0.binds (ps := ["value", "least", "most"]) fun _ _ _ _ _ _ us hl => match us, hl with | [_, _, _], _ => rfl
  have F1 := fun_mk (st := s_is_entry) l1 c1 k1
  have b1 := F1.binds (ps := ["count", "task", "value"]) fun _ _ _ _ _ _ us hl => match us, hl with | [_, _, _], _ => rfl
  have F2 := fun_mk (st := s_is_needs) l2 c2 k2
  have b2 := F2.binds (ps := ["value"]) fun _ _ _ _ _ _ us hl => match us, hl with | [_], _ => rfl
  have F3 := fun_mk (st := s_law_source) l3 c3 k3
  have b3 := F3.binds (ps := ["_law_cell", "_law_k"]) fun _ _ _ _ _ _ us hl => match us, hl with | [_, _], _ => rfl
  have F4 := fun_mk (st := s_law_draw) l4 c4 k4
  have b4 := F4.binds (ps := ["_law_source_here", "_law_count"]) fun _ _ _ _ _ _ us hl => match us, hl with | [_, _], _ => rfl
  have F5 := fun_mk (st := s_law_listed) l5 c5 k5
  have b5 := F5.binds (ps := ["_law_size", "_law_pairs"]) fun _ _ _ _ _ _ us hl => match us, hl with | [_, _], _ => rfl
  have F6 := fun_mk (st := s_law_needs) l6 c6 k6
  have b6 := F6.binds (ps := ["_law_source_here", "_law_most"]) fun _ _ _ _ _ _ us hl => match us, hl with | [_, _], _ => rfl
  have F7 := fun_mk (st := s_law_is_fine) l7 c7 k7
  have b7 := F7.binds (ps := ["_law_value"]) fun _ _ _ _ _ _ us hl => match us, hl with | [_], _ => rfl
  have F8 := fun_mk (st := s_law_bad_needs) l8 c8 k8
  have b8 := F8.binds (ps := ["_law_source_here", "_law_rows"]) fun _ _ _ _ _ _ us hl => match us, hl with | [_, _], _ => rfl
  have F9 := fun_mk (st := s_law_checked) l9 c9 k9
  have b9 := F9.binds (ps := ["_law_value"]) fun _ _ _ _ _ _ us hl => match us, hl with | [_], _ => rfl
  have F10 := fun_mk (st := s_law_holds) l10 c10 k10
  have b10 := F10.binds (ps := ["_law_source_here", "_law_most"]) fun _ _ _ _ _ _ us hl => match us, hl with | [_, _], _ => rfl
  have F11 := fun_mk (st := s_law) l11 c11 k11
  have b11 := F11.binds (ps := ["_law_script"]) fun _ _ _ _ _ _ us hl => match us, hl with | [_], _ => rfl
  have T : Txt K mg ⟨f0, _, f1, _, f2, _, f3, _, f4, _, f5, _, f6, _, f7, _, f8, _, f9, _, f10, _, _, _, tMOST_TASKS, ()⟩ := ⟨PySem.W.mg_of X G a0, F0, b0, PySem.W.mg_of X G a1, F1, b1, PySem.W.mg_of X G a2, F2, b2, PySem.W.mg_of X G a3, F3, b3, PySem.W.mg_of X G a4, F4, b4, PySem.W.mg_of X G a5, F5, b5, PySem.W.mg_of X G a6, F6, b6, PySem.W.mg_of X G a7, F7, b7, PySem.W.mg_of X G a8, F8, b8, PySem.W.mg_of X G a9, F9, b9, PySem.W.mg_of X G a10, F10, b10, PySem.W.mg_of X G a11, F11, b11, PySem.W.mg_none_of X G zall, PySem.W.mg_none_of X G zbool, PySem.W.mg_none_of X G zenumerate, PySem.W.mg_none_of X G zint, PySem.W.mg_none_of X G zisinstance, PySem.W.mg_none_of X G zlen, PySem.W.mg_none_of X G zlist, PySem.W.mg_none_of X G zmax, PySem.W.mg_none_of X G zmin, PySem.W.mg_none_of X G zrange, PySem.W.mg_none_of X G zrepr, PySem.W.mg_none_of X G zsorted, PySem.W.mg_none_of X G ztuple, PySem.W.mg_none_of X G zzip, PySem.W.mg_of X G yMOST_TASKS⟩
  exact ⟨_, fun s v => .of_eq rfl, fun base _ _ => ok_law T⟩
end Law
open PySem PySem.W PyProof.Rows
set_option maxRecDepth 100000 in
set_option maxHeartbeats 0 in
theorem PySem.Challenge.cw_putoffs_k01_needs_recognized_holds : PySem.Challenge.rw_putoffs_k01_needs_recognized.Holds := by
  w_on; o_law; k_head; (case hw => w_witness2)
  k_fill
  refine DL.walkG (l := PySem.Challenge.rw_putoffs_k01_needs_recognized) (k := 6) (x := "_law_script") rfl rfl ⟨rfl, by decide, by decide⟩ (fun w h Y => PySem.W.kIn_of Y) ?F
  case F =>
    intro w mg fa h KX G hmg
    refine' Law.all_mk KX G hmg ?a0 ?l0 ?c0 ?k0 ?a1 ?l1 ?c1 ?k1 ?a2 ?l2 ?c2 ?k2 ?a3 ?l3 ?c3 ?k3 ?a4 ?l4 ?c4 ?k4 ?a5 ?l5 ?c5 ?k5 ?a6 ?l6 ?c6 ?k6 ?a7 ?l7 ?c7 ?k7 ?a8 ?l8 ?c8 ?k8 ?a9 ?l9 ?c9 ?k9 ?a10 ?l10 ?c10 ?k10 ?a11 ?l11 ?c11 ?k11 ?zall ?zbool ?zenumerate ?zint ?zisinstance ?zlen ?zlist ?zmax ?zmin ?zrange ?zrepr ?zsorted ?ztuple ?zzip ?yMOST_TASKS
    (case a0 => k_is)
    (case l0 => k_is)
    (case c0 => k_is)
    (case k0 => k_is)
    (case a1 => k_is)
    (case l1 => k_is)
    (case c1 => k_is)
    (case k1 => k_is)
    (case a2 => k_is)
    (case l2 => k_is)
    (case c2 => k_is)
    (case k2 => k_is)
    (case a3 => k_is)
    (case l3 => k_is)
    (case c3 => k_is)
    (case k3 => k_is)
    (case a4 => k_is)
    (case l4 => k_is)
    (case c4 => k_is)
    (case k4 => k_is)
    (case a5 => k_is)
    (case l5 => k_is)
    (case c5 => k_is)
    (case k5 => k_is)
    (case a6 => k_is)
    (case l6 => k_is)
    (case c6 => k_is)
    (case k6 => k_is)
    (case a7 => k_is)
    (case l7 => k_is)
    (case c7 => k_is)
    (case k7 => k_is)
    (case a8 => k_is)
    (case l8 => k_is)
    (case c8 => k_is)
    (case k8 => k_is)
    (case a9 => k_is)
    (case l9 => k_is)
    (case c9 => k_is)
    (case k9 => k_is)
    (case a10 => k_is)
    (case l10 => k_is)
    (case c10 => k_is)
    (case k10 => k_is)
    (case a11 => k_is)
    (case l11 => k_is)
    (case c11 => k_is)
    (case k11 => k_is)
    (case zall => k_is)
    (case zbool => k_is)
    (case zenumerate => k_is)
    (case zint => k_is)
    (case zisinstance => k_is)
    (case zlen => k_is)
    (case zlist => k_is)
    (case zmax => k_is)
    (case zmin => k_is)
    (case zrange => k_is)
    (case zrepr => k_is)
    (case zsorted => k_is)
    (case ztuple => k_is)
    (case zzip => k_is)
    (case yMOST_TASKS => k_is)
