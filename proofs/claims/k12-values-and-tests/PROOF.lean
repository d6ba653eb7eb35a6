import PyProof.Rows.All
import Wide.All
import OpenK.AllK
import Wide.FinOn
import HandS.ForMost
import HandS.Wide
import HandS.IsInst
import HandS.TupAny
import HandS.DictComp
import HandS.Codes
import HandS.Walk
import PySem.Challenge.RW_extrasmeet_k12_values_and_tests
set_option Elab.async false
set_option linter.all false
set_option maxRecDepth 100000
set_option maxHeartbeats 4000000
namespace G
open PySem PySem.Spec PyProof.Rows L2

/-! ### a def that may be called by its name -/
structure Df (K : PySem.W.Frag) (mg : Str → Option Value) (x : Str) (st : Stmt) (ps : List Str) : Prop where
  ex : ∃ (f : Addr) (fd : FuncData), Fun K x x st f fd ∧ mg x = some (.ref f) ∧ PySem.W.keepIn K (.ref f) = true ∧ Binds K fd ps []
structure Cal (P : Program) (w : World) (K : PySem.W.Frag) (mg : Str → Option Value) (base : Heap) (k : Nat) (x : Str) (sp : Sp) : Prop where
  ex : ∃ (f : Addr) (fd : FuncData) (ps : List Str), FnOk P w K mg base CX0 k f fd ps sp ∧ mg x = some (.ref f) ∧ PySem.W.keepIn K (.ref f) = true ∧ Binds K fd ps []
theorem Cal.mono {P : Program} {w : World} {K : PySem.W.Frag} {mg : Str → Option Value} {base : Heap} {j k : Nat} {x : Str} {sp : Sp} (c : Cal P w K mg base j x sp) (h : j ≤ k) : Cal P w K mg base k x sp := by
  obtain ⟨f, fd, ps, F, r⟩ := c.ex
  exact ⟨f, fd, ps, F.mono h, r⟩
theorem Cal.imp {P : Program} {w : World} {K : PySem.W.Frag} {mg : Str → Option Value} {base : Heap} {k : Nat} {x : Str} {sp sp' : Sp} (c : Cal P w K mg base k x sp) (h : ∀ vs H Q E, sp' vs H Q E → sp vs H Q E) : Cal P w K mg base k x sp' := by
  obtain ⟨f, fd, ps, F, r⟩ := c.ex
  exact ⟨f, fd, ps, F.imp h, r⟩
section
variable {P : Program} {w : World} {K : PySem.W.Frag} {mg : Str → Option Value} {base : Heap}
theorem cal {x : Str} {st : Stmt} {N ps : List Str} {k : Nat} {sp : Sp} (D : Df K mg x st ps) (S : FnScope N ps (defScope st)) (len : ∀ vs H Q E, sp vs H Q E → vs.length = ps.length)
    (hbody : ∀ (f : Addr) (cdv : Value) (A : Around) (outer : List Env) (s : Shared) (H : Hp) (vs : List V) (Q : VK) (E : XK), Room k (A.deeper (envOfC x (defScope st) s.heap.objs.size f cdv)) → sp vs H Q E →
      ∃ t, PSs (cxOf CX0 P w K mg base N x (defScope st) f cdv A outer s H E).nox (defBody st) t ∧ t { nx := fun _ H' => Q .non H', rt := Q } (start N vs) H) : Cal P w K mg base (k + 1) x sp := by
  obtain ⟨f, fd, F, hm, kp, b⟩ := D.ex
  exact ⟨f, fd, ps, F.ok S len (hbody f), hm, kp, b⟩
theorem df_mk {x : Str} {st : Stmt} {f : Addr} {ps : List Str} {oc : Value} {od an : Option Addr} {osl : Array (Option Value)} {kV doc pm cdv ct : Value} {h : Heap} (X : K.In h) (G : h.Ns mainGlobals mg)
    (a : PySem.W.nsIn K mainGlobals x = some (some (.ref f)))
    (l : K.lookup f = some ⟨oc, od, .func (PySem.W.fnOf x x (defArgs st) (defBody st) (defScope st) .none kV doc pm an cdv ct), osl⟩)
    (c : PySem.W.codeIn K cdv x = true) (k : PySem.W.keepIn K (.ref f) = true)
    (hb : ∀ (kV doc pm : Value) (an : Option Addr) (cdv ct : Value) (us : List Value), us.length = ps.length → bindArgs (PySem.W.fnOf x x (defArgs st) (defBody st) (defScope st) .none kV doc pm an cdv ct) ⟨us, []⟩ = pure (ps.zip us)) : Df K mg x st ps :=
  ⟨f, _, fun_mk l c k, PySem.W.mg_of X G a, k, (fun_mk l c k).binds hb⟩
end
section
variable {X : Cx} {k j : Nat} {x : Str} {sp : Sp} {p pos : Pos} {e : Expr} {es : List Expr} {t : TA}
/-- a call's promise, shut: the steps of a reading stop there -/
@[irreducible] def Go (p : Prop) : Prop := p
theorem go {p : Prop} (h : p) : Go p := by unfold Go; exact h
theorem Go.out {p : Prop} (h : Go p) : p := by unfold Go at h; exact h
def Gp (sp : Sp) : Sp := fun vs H Q E => Go (sp vs H Q E)
theorem pe_c (c : Cal X.prog X.w X.K X.mg X.base k x sp) (hr : Room j X.A) (hk : k ≤ j) (hg : Gl X x) (ha : PA X (e :: es) t)
    (hdb : (x == ("__debug__" : Str)) = false := by decide) (he : starEach (e :: es) X.env = (false, eval e X.env) :: starEach es X.env := by rfl) (hpl : (backTo pos (starEach es X.env)).any (·.1) = false := by rfl) :
    PE X (.Call (.Name x p) (e :: es) [] pos) (tCall (Gp sp) [] E0 t) := by
  obtain ⟨f, fd, ps, F, hm, kp, b⟩ := c.ex
  exact pe_call ((F.imp (sp' := Gp sp) fun _ _ _ _ h => Go.out h).mono (Nat.le_refl _)) (hr.mono hk) hg hm kp b .nil pass0 ha hdb he hpl
end

/-! ### the heap: what a call keeps -/
def Keep (H H' : Hp) : Prop := ∀ a xs, Rd H a (.tup xs) → Rd H' a (.tup xs)
/-- all but what stands at S is kept; tuples are kept -/
structure Fr (S : List Addr) (H H' : Hp) : Prop where
  md : ∀ a o, H a = some o → a ∉ S → H' a = some o
  kp : Keep H H'
theorem Keep.refl (H : Hp) : Keep H H := fun _ _ h => h
theorem Keep.trans {H H1 H2 : Hp} (a : Keep H H1) (b : Keep H1 H2) : Keep H H2 := fun p xs h => b p xs (a p xs h)
theorem Fr.refl {S : List Addr} (H : Hp) : Fr S H H := ⟨fun _ _ h _ => h, Keep.refl H⟩
theorem Fr.trans {S : List Addr} {H H1 H2 : Hp} (a : Fr S H H1) (b : Fr S H1 H2) : Fr S H H2 := ⟨fun p o h n => b.md p o (a.md p o h n) n, a.kp.trans b.kp⟩
theorem Fr.mono {S S' : List Addr} {H H1 : Hp} (a : Fr S H H1) (h : ∀ x, x ∈ S → x ∈ S') : Fr S' H H1 := ⟨fun p o e n => a.md p o e fun z => n (h p z), a.kp⟩
theorem Fr.nil {S : List Addr} {H H1 : Hp} (a : Fr [] H H1) : Fr S H H1 := a.mono fun _ z => absurd z (by simp)
theorem Fr.new {S : List Addr} {H : Hp} {p : Addr} {o : HO} (h : H p = none) : Fr S H (upd H p o) := by
  refine ⟨fun a u e _ => ?_, fun a xs e => ?_⟩
  · rw [upd_ne (ne_of_none e h)]; exact e
  · rcases e with e | ⟨ob, e⟩
    · exact .inl (by rw [upd_ne (ne_of_none e h)]; exact e)
    · exact .inr ⟨ob, by rw [upd_ne (ne_of_none e h)]; exact e⟩
/-- what stands at p (no tuple) is changed -/
theorem Fr.put {S : List Addr} {H : Hp} {p : Addr} {o : HO} (hp : p ∈ S) (m : Mut (H p)) : Fr S H (upd H p o) := by
  refine ⟨fun a u e n => ?_, fun a xs e => ?_⟩
  · rw [upd_ne (fun z => n (by rw [z]; exact hp))]; exact e
  · have ne : ∀ u, H a = some u → ¬ Mut (some u) → a ≠ p := fun u e nm z => by subst z; rw [e] at m; exact nm m
    rcases e with e | ⟨ob, e⟩
    · exact .inl (by rw [upd_ne (ne _ e (fun z => z))]; exact e)
    · exact .inr ⟨ob, by rw [upd_ne (ne _ e (fun z => z))]; exact e⟩
theorem Fr.putL {S : List Addr} {H : Hp} {p : Addr} {o : HO} {xs : List V} (hp : p ∈ S) (h : H p = some (.lst xs)) : Fr S H (upd H p o) := .put hp (by rw [h]; trivial)
theorem Fr.putD {S : List Addr} {H : Hp} {p : Addr} {o : HO} {xs : List (Key × V)} (hp : p ∈ S) (h : H p = some (.dK xs)) : Fr S H (upd H p o) := .put hp (by rw [h]; trivial)
theorem Fr.sqT {K : PySem.W.Frag} {S : List Addr} {H H' : Hp} {a : Addr} {xs : List V} (f : Fr S H H') (h : SqT K H a xs) : SqT K H' a xs := by
  rcases h with h | h
  · exact .inl (f.kp _ _ h)
  · exact .inr h
theorem Fr.sqL {K : PySem.W.Frag} {S : List Addr} {H H' : Hp} {a : Addr} {xs : List V} (f : Fr S H H') (h : SqL K H a xs) (n : a ∉ S) : SqL K H' a xs := by
  rcases h with (h | ⟨o, h⟩) | h
  · exact .inl (.inl (f.md _ _ h n))
  · exact .inl (.inr ⟨o, f.md _ _ h n⟩)
  · exact .inr h
theorem Fr.fresh {S : List Addr} {H H' : Hp} {p : Addr} (f : Fr S H H') (h : H' p = none) (n : p ∉ S) : H p = none := by
  cases q : H p with
  | none => rfl
  | some o => rw [f.md p o q n] at h; cases h
/-- an object that is new behind stands at none of the old ones -/
theorem Fr.ne {S : List Addr} {H H' : Hp} {p a : Addr} {o : HO} (f : Fr S H H') (h : H' p = none) (e : H a = some o) (n : a ∉ S) : a ≠ p := ne_of_none (f.md a o e n) h

/-! ### data -/
inductive D where
  | non | bl (b : Bool) | int (i : Int) | str (s : Str) | tup (ds : List D)
mutual
inductive Da (K : PySem.W.Frag) (H : Hp) : V → D → Prop
  | non : Da K H .non .non
  | bl (b : Bool) : Da K H (.bl b) (.bl b)
  | int (i : Int) : Da K H (.int i) (.int i)
  | str (s : Str) : Da K H (.str s) (.str s)
  | tup {a : Addr} {xs : List V} {ds : List D} : SqT K H a xs → Das K H xs ds → Da K H (.ref a) (.tup ds)
inductive Das (K : PySem.W.Frag) (H : Hp) : List V → List D → Prop
  | nil : Das K H [] []
  | cons {v : V} {vs : List V} {d : D} {ds : List D} : Da K H v d → Das K H vs ds → Das K H (v :: vs) (d :: ds)
end
section
variable {K : PySem.W.Frag} {H H' : Hp} {S : List Addr}
theorem sqT_k {a : Addr} {xs : List V} (k : Keep H H') (h : SqT K H a xs) : SqT K H' a xs := by
  rcases h with h | h
  · exact .inl (k _ _ h)
  · exact .inr h
mutual
theorem Da.k (f : Keep H H') : ∀ {v : V} {d : D}, Da K H v d → Da K H' v d
  | _, _, .non => .non
  | _, _, .bl b => .bl b
  | _, _, .int i => .int i
  | _, _, .str s => .str s
  | _, _, .tup h hs => .tup (sqT_k f h) (Das.k f hs)
theorem Das.k (f : Keep H H') : ∀ {vs : List V} {ds : List D}, Das K H vs ds → Das K H' vs ds
  | _, _, .nil => .nil
  | _, _, .cons h hs => .cons (Da.k f h) (Das.k f hs)
end
theorem Da.f (h : Da K H v d) (f : Fr S H H') : Da K H' v d := h.k f.kp
theorem Das.f {vs : List V} {ds : List D} (h : Das K H vs ds) (f : Fr S H H') : Das K H' vs ds := h.k f.kp
theorem Das.len : ∀ {vs : List V} {ds : List D}, Das K H vs ds → vs.length = ds.length
  | _, _, .nil => rfl
  | _, _, .cons _ h => congrArg (· + 1) h.len
theorem Das.get : ∀ {vs : List V} {ds : List D} {i : Nat} {v : V}, Das K H vs ds → vs[i]? = some v → ∃ d, ds[i]? = some d ∧ Da K H v d
  | _, _, i, _, .nil, e => by simp at e
  | _, _, 0, _, .cons h _, e => by simp at e; subst e; exact ⟨_, rfl, h⟩
  | _, _, i + 1, _, .cons _ h, e => by
    obtain ⟨d, h1, h2⟩ := h.get (i := i) (by simpa using e)
    exact ⟨d, by simpa using h1, h2⟩
theorem Das.app : ∀ {vs ws : List V} {ds es : List D}, Das K H vs ds → Das K H ws es → Das K H (vs ++ ws) (ds ++ es)
  | _, _, _, _, .nil, s => s
  | _, _, _, _, .cons h t, s => .cons h (Das.app t s)
/-- the parts of a tuple -/
theorem Da.un {v : V} {ds : List D} (h : Da K H v (.tup ds)) : ∃ a xs, v = .ref a ∧ SqT K H a xs ∧ Das K H xs ds := by
  cases h with
  | tup h hs => exact ⟨_, _, rfl, h, hs⟩
theorem Da.is_int {v : V} {i : Int} (h : Da K H v (.int i)) : v = .int i := by cases h; rfl
theorem Da.is_str {v : V} {s : Str} (h : Da K H v (.str s)) : v = .str s := by cases h; rfl
theorem Da.is_bl {v : V} {b : Bool} (h : Da K H v (.bl b)) : v = .bl b := by cases h; rfl
theorem Da.is_non {v : V} (h : Da K H v .non) : v = .non := by cases h; rfl
theorem Das.un1 {xs : List V} {d : D} {ds : List D} (h : Das K H xs (d :: ds)) : ∃ v vs, xs = v :: vs ∧ Da K H v d ∧ Das K H vs ds := by
  cases h with
  | cons h hs => exact ⟨_, _, rfl, h, hs⟩
theorem Das.un0 {xs : List V} (h : Das K H xs []) : xs = [] := by cases h; rfl
end

/-! ### a list's item by its operator (for o[i] += e) -/
def rGetL (K : PySem.W.Frag) : V → V → Hp → VK → Prop := fun x y H Q => ∃ p xs k v, x = .ref p ∧ y = .int k ∧ 0 ≤ k ∧ SqL K H p xs ∧ xs[k.toNat]? = some v ∧ Q v H
theorem get_list {X : Cx} : PGet X (rGetL X.K) := by
  intro pins s σ H o i ov iv Q I ro ri h
  obtain ⟨p, xs, k, v, rfl, rfl, h0, hS, ha, q⟩ := h
  cases ro
  obtain ⟨t, rfl⟩ := ri
  obtain ⟨its, r, pl, hsz⟩ := I.list hS
  obtain ⟨w, ew, rw'⟩ := r.get ha
  have hl := r.length
  have hn := line63
  have hk : k.toNat < its.length := (List.getElem?_eq_some_iff.mp ew).1
  exact wpAny_getItem_list pl.isList h0 (by omega) (by simpa using ew) ⟨v, H, I, rw', q⟩

/-! ### readings, step by step: what is asked first, what follows last -/
section
variable {K : PySem.W.Frag} {H : Hp} {Q : VK} {A B : Prop}
theorem rd_ixT {a : Addr} {xs : List V} {i : Int} {v : V} (h : SqT K H a xs) (e : atI xs i = some v) (q : Q v H) : rIxT K (.ref a) (.int i) H Q := ⟨a, xs, i, v, rfl, rfl, h, e, q⟩
theorem rd_ixL {a : Addr} {xs : List V} {i : Int} {v : V} (h : SqL K H a xs) (e : atI xs i = some v) (q : Q v H) : rIxL K (.ref a) (.int i) H Q := ⟨a, xs, i, v, rfl, rfl, h, e, q⟩
theorem rd_dget {σ : L2.St} {td ty : TE} {Q : VK} (h : td σ H fun x H1 => ty σ H1 fun y H2 => ∃ a kvs k v, x = .ref a ∧ y = kV k ∧ H2 a = some (.dK kvs) ∧ valV kvs k = some v ∧ Q v H2)
    (m1 : ∀ Q Q' : VK, (∀ v H, Q v H → Q' v H) → td σ H Q → td σ H Q') (m2 : ∀ H1, ∀ Q Q' : VK, (∀ v H, Q v H → Q' v H) → ty σ H1 Q → ty σ H1 Q') : tDGet td ty σ H Q :=
  m1 _ _ (fun x H1 q => m2 H1 _ _ (fun y H2 ⟨a, kvs, k, v, e1, e2, e3, e4, q⟩ => ⟨a, v, e1, .inl ⟨kvs, k, .inl e3, e2, e4.symm⟩, q⟩) q) h
theorem dget_k {a : Addr} {kvs : List (Key × V)} {k : Key} {v : V} {y : V} (e1 : H a = some (.dK kvs)) (e2 : y = kV k) (e3 : valV kvs k = some v) : DGet H a y (some v) := .inl ⟨kvs, k, .inl e1, e2, e3.symm⟩
theorem dget_f {a : Addr} {kvs : List (Key × V)} {k : Key} {v : V} {y : V} {o : Obj} (e1 : H a = some (.frz o (.dK kvs))) (e2 : y = kV k) (e3 : valV kvs k = some v) : DGet H a y (some v) := .inl ⟨kvs, k, .inr ⟨o, e1⟩, e2, e3.symm⟩
/-- the way of a test that is known -/
theorem if_yes {c : Prop} [Decidable c] (h : c) (q : A) : if decide c = true then A else B := by rw [decide_eq_true h]; exact iteT q
theorem if_no {c : Prop} [Decidable c] (h : ¬ c) (q : B) : if decide c = true then A else B := by rw [decide_eq_false h]; exact iteF q
theorem ifn_yes {c : Prop} [Decidable c] (h : ¬ c) (q : A) : if (!decide c) = true then A else B := by rw [decide_eq_false h]; exact iteT q
theorem ifn_no {c : Prop} [Decidable c] (h : c) (q : B) : if (!decide c) = true then A else B := by rw [decide_eq_true h]; exact iteF q
theorem if_both {c : Prop} [Decidable c] (p : c → A) (q : ¬ c → B) : if decide c = true then A else B := by
  by_cases h : c
  · exact if_yes h (p h)
  · exact if_no h (q h)
theorem ifn_both {c : Prop} [Decidable c] (p : ¬ c → A) (q : c → B) : if (!decide c) = true then A else B := by
  by_cases h : c
  · exact ifn_no h (q h)
  · exact ifn_yes h (p h)
theorem ifb_both {b : Bool} (p : b = true → A) (q : b = false → B) : if b = true then A else B := by
  cases b with
  | true => exact iteT (p rfl)
  | false => exact iteF (q rfl)
end

section
variable {K : PySem.W.Frag} {H : Hp} {v : V} {t s : Str} {d1 d2 d3 : D}
theorem un1 (h : Da K H v (.tup [.str t])) : ∃ a, v = .ref a ∧ SqT K H a [.str t] := by
  obtain ⟨a, xs, rfl, hT, hx⟩ := h.un
  obtain ⟨v1, xs, rfl, h1, hx⟩ := hx.un1
  cases hx; cases h1
  exact ⟨a, rfl, hT⟩
theorem un2 (h : Da K H v (.tup [.str t, d1])) : ∃ a v1, v = .ref a ∧ SqT K H a [.str t, v1] ∧ Da K H v1 d1 := by
  obtain ⟨a, xs, rfl, hT, hx⟩ := h.un
  obtain ⟨v0, xs, rfl, h0, hx⟩ := hx.un1
  obtain ⟨v1, xs, rfl, h1, hx⟩ := hx.un1
  cases hx; cases h0
  exact ⟨a, v1, rfl, hT, h1⟩
theorem un3 (h : Da K H v (.tup [.str t, d1, d2])) : ∃ a v1 v2, v = .ref a ∧ SqT K H a [.str t, v1, v2] ∧ Da K H v1 d1 ∧ Da K H v2 d2 := by
  obtain ⟨a, xs, rfl, hT, hx⟩ := h.un
  obtain ⟨v0, xs, rfl, h0, hx⟩ := hx.un1
  obtain ⟨v1, xs, rfl, h1, hx⟩ := hx.un1
  obtain ⟨v2, xs, rfl, h2, hx⟩ := hx.un1
  cases hx; cases h0
  exact ⟨a, v1, v2, rfl, hT, h1, h2⟩
theorem un4 (h : Da K H v (.tup [.str t, d1, d2, d3])) : ∃ a v1 v2 v3, v = .ref a ∧ SqT K H a [.str t, v1, v2, v3] ∧ Da K H v1 d1 ∧ Da K H v2 d2 ∧ Da K H v3 d3 := by
  obtain ⟨a, xs, rfl, hT, hx⟩ := h.un
  obtain ⟨v0, xs, rfl, h0, hx⟩ := hx.un1
  obtain ⟨v1, xs, rfl, h1, hx⟩ := hx.un1
  obtain ⟨v2, xs, rfl, h2, hx⟩ := hx.un1
  obtain ⟨v3, xs, rfl, h3, hx⟩ := hx.un1
  cases hx; cases h0
  exact ⟨a, v1, v2, v3, rfl, hT, h1, h2, h3⟩
theorem dget_s {a : Addr} {kvs : List (Key × V)} {v : V} (e1 : H a = some (.dK kvs)) (e3 : valV kvs (.inr s) = some v) : DGet H a (.str s) (some v) := .inl ⟨kvs, .inr s, .inl e1, rfl, e3.symm⟩
theorem dget_sf {a : Addr} {kvs : List (Key × V)} {v : V} {o : Obj} (e1 : H a = some (.frz o (.dK kvs))) (e3 : valV kvs (.inr s) = some v) : DGet H a (.str s) (some v) := .inl ⟨kvs, .inr s, .inr ⟨o, e1⟩, rfl, e3.symm⟩
end
/-- a new tuple of data -/
theorem Da.new {K : PySem.W.Frag} {H : Hp} {p : Addr} {xs : List V} {ds : List D} (hp : H p = none) (h : Das K H xs ds) : Da K (upd H p (.tup xs)) (.ref p) (.tup ds) :=
  .tup (SqT.of upd_same) (h.f (Fr.new (S := []) hp))

section
variable {A B : Prop}
theorem ifc {c : Prop} [Decidable c] (h : c) (q : A) : if c then A else B := by rw [if_pos h]; exact q
theorem ifnc {c : Prop} [Decidable c] (h : ¬ c) (q : B) : if c then A else B := by rw [if_neg h]; exact q
/-- what comes back is the wanted value -/
theorem q_bl {Q : VK} {H : Hp} {a b : Bool} (h : Q (.bl a) H) (e : b = a) : Q (.bl b) H := by rw [e]; exact h
theorem q_int {Q : VK} {H : Hp} {a b : Int} (h : Q (.int a) H) (e : b = a) : Q (.int b) H := by rw [e]; exact h
end

theorem bb_yes {c t : Prop} [Decidable c] [Decidable t] (h : t) : decide (V.bl (decide c) = V.bl (decide t)) = decide c := by
  rw [decide_eq_true h]; by_cases z : c <;> simp [z]
theorem bb_no {c t : Prop} [Decidable c] [Decidable t] (h : ¬ t) : decide (V.bl (decide c) = V.bl (decide t)) = !decide c := by
  rw [decide_eq_false h]; by_cases z : c <;> simp [z]
theorem int_is {i j : Int} : (V.int i = V.int j) ↔ i = j := ⟨fun h => V.int.inj h, fun h => by rw [h]⟩
theorem str_is {i j : Str} : (V.str i = V.str j) ↔ i = j := ⟨fun h => V.str.inj h, fun h => by rw [h]⟩

theorem sz100 {n : Nat} (h : Nat.ble n 100 = true) : n ≤ sizeLine := Nat.le_trans (Nat.le_of_ble_eq_true h) (by decide)
theorem lc_yes {σ : L2.St} {H : Hp} {A B : Hp → Prop} (q : A H) : tYes σ H fun b H3 => if b = true then A H3 else B H3 := q

theorem cdw {i j : Int} (h : 0 < j) (h2 : j < 2 ^ 64) : CDivW i j := wide_div h (b := 64) (by omega) (by omega) (by omega)

theorem at_get {α : Type} {xs : List α} {i : Int} (h0 : 0 ≤ i) (hl : i.toNat < xs.length) : atI xs i = some xs[i.toNat] := by
  have h := atI_nat (j := i.toNat) (List.getElem?_eq_getElem hl)
  rwa [Int.toNat_of_nonneg h0] at h
/-- the kind of a told thing -/
def D.ty : D → String
  | .non => "NoneType" | .bl _ => "bool" | .int _ => "int" | .str _ => "str" | .tup _ => "tuple"
theorem Da.tyx {K : PySem.W.Frag} {H : Hp} : ∀ {v : V} {d : D}, Da K H v d → TyX K H v (.type d.ty)
  | _, _, .non => .base .non
  | _, _, .bl b => .base (.bl b)
  | _, _, .int i => .base (.int i)
  | _, _, .str s => .base (.str s)
  | _, _, .tup h _ => by
    rcases h with (h | ⟨o, h⟩) | h
    · exact .base (.tup h)
    · exact .fTuple h
    · obtain ⟨o, its, n, h1, h2, _⟩ := h
      exact .kTuple h1 h2
mutual
def D.same : D → D → Bool
  | .non, .non => true
  | .bl a, .bl b => decide (a = b)
  | .int a, .int b => decide (a = b)
  | .str a, .str b => decide (a = b)
  | .tup xs, .tup ys => D.sames xs ys
  | _, _ => false
def D.sames : List D → List D → Bool
  | [], [] => true
  | x :: xs, y :: ys => D.same x y && D.sames xs ys
  | _, _ => false
end
mutual
theorem D.same_refl : ∀ d : D, D.same d d = true
  | .non => by simp [D.same]
  | .bl _ => by simp [D.same]
  | .int _ => by simp [D.same]
  | .str _ => by simp [D.same]
  | .tup xs => by simp [D.same, D.sames_refl xs]
theorem D.sames_refl : ∀ xs : List D, D.sames xs xs = true
  | [] => by simp [D.sames]
  | x :: xs => by simp [D.sames, D.same_refl x, D.sames_refl xs]
end
mutual
theorem D.eq_of : ∀ {d e : D}, D.same d e = true → d = e
  | .non, .non, _ => rfl
  | .bl a, .bl b, h => by simp [D.same] at h; rw [h]
  | .int a, .int b, h => by simp [D.same] at h; rw [h]
  | .str a, .str b, h => by simp [D.same] at h; rw [h]
  | .tup xs, .tup ys, h => by simp [D.same] at h; rw [D.eqs_of h]
  | .non, .bl _, h | .non, .int _, h | .non, .str _, h | .non, .tup _, h | .bl _, .non, h | .bl _, .int _, h | .bl _, .str _, h | .bl _, .tup _, h
  | .int _, .non, h | .int _, .bl _, h | .int _, .str _, h | .int _, .tup _, h | .str _, .non, h | .str _, .bl _, h | .str _, .int _, h | .str _, .tup _, h
  | .tup _, .non, h | .tup _, .bl _, h | .tup _, .int _, h | .tup _, .str _, h => by simp [D.same] at h
theorem D.eqs_of : ∀ {xs ys : List D}, D.sames xs ys = true → xs = ys
  | [], [], _ => rfl
  | x :: xs, y :: ys, h => by
    simp [D.sames] at h
    rw [D.eq_of h.1, D.eqs_of h.2]
  | [], _ :: _, h | _ :: _, [], h => by simp [D.sames] at h
end
mutual
def D.depth : D → Nat
  | .tup xs => D.depths xs + 1
  | _ => 1
def D.depths : List D → Nat
  | [] => 0
  | x :: xs => max x.depth (D.depths xs)
end
theorem D.depth_mem : ∀ {xs : List D} {i : Nat} {x : D}, xs[i]? = some x → x.depth ≤ D.depths xs
  | [], i, _, e => by simp at e
  | y :: ys, 0, _, e => by simp at e; subst e; simp only [D.depths]; omega
  | y :: ys, i + 1, _, e => by
    have := D.depth_mem (xs := ys) (i := i) (by simpa using e)
    simp only [D.depths]; omega
theorem D.sames_iff : ∀ {xs ys : List D}, xs.length = ys.length → (D.sames xs ys = true ↔ ∀ (i : Nat) x y, xs[i]? = some x → ys[i]? = some y → D.same x y = true)
  | [], [], _ => by simp [D.sames]
  | x :: xs, y :: ys, h => by
    have ih := D.sames_iff (xs := xs) (ys := ys) (by simpa using h)
    simp only [D.sames, Bool.and_eq_true, ih]
    constructor
    · rintro ⟨h1, h2⟩ i a b ea eb
      cases i with
      | zero => simp at ea eb; subst ea eb; exact h1
      | succ i => exact h2 i a b (by simpa using ea) (by simpa using eb)
    · intro h
      exact ⟨h 0 x y rfl rfl, fun i a b ea eb => h (i + 1) a b (by simpa using ea) (by simpa using eb)⟩
theorem tyx_tup {K : PySem.W.Frag} {H : Hp} {a : Addr} {xs : List V} (h : SqT K H a xs) : TyX K H (.ref a) (.type "tuple") := by
  rcases h with (h | ⟨o, h⟩) | h
  · exact .base (.tup h)
  · exact .fTuple h
  · obtain ⟨o, its, n, h1, h2, _⟩ := h
    exact .kTuple h1 h2

/-! ### the rules with the written part named once (K), so that they stand in a comprehension too -/
section
variable {X : Cx} {K : PySem.W.Frag}
theorem ixT (h : X.K = K := by rfl) : IxR X (rIxT K) := by subst h; exact ix_tup
theorem ixL (h : X.K = K := by rfl) : IxR X (rIxL K) := by subst h; exact ix_list
theorem ixQ (h : X.K = K := by rfl) : IxR X (rIx K) := by subst h; exact ix_seq
theorem slL (h : X.K = K := by rfl) : SlR X (rSlL K) := by subst h; exact sl_list
theorem slT (h : X.K = K := by rfl) : SlR X (rSlA K) := by subst h; exact sl_tupA
theorem inQ (h : X.K = K := by rfl) : OpR X (compareOp .In) (rIn K false) := by subst h; exact op_in_seq
theorem ninQ (h : X.K = K := by rfl) : OpR X (compareOp .NotIn) (rIn K true) := by subst h; exact op_notIn_seq
theorem catT (h : X.K = K := by rfl) : OpR X (binaryOp .Add) (rCatA K) := by subst h; exact op_catA
theorem eqD (hu : X.A.units + 64 < cLine) (h : X.K = K := by rfl) : OpR X (compareOp .Eq) (rEqD K) := by subst h; exact op_eqD hu
theorem neD (hu : X.A.units + 64 < cLine) (h : X.K = K := by rfl) : OpR X (compareOp .NotEq) (rNeD K) := by subst h; exact op_neD hu
/-- len, with the bound that every list, tuple and text has -/
def rLen (K : PySem.W.Frag) : List V → Hp → VK → Prop := fun xs H Q => ∃ x n, xs = [x] ∧ LenV K x H n ∧ (n ≤ sizeLine → Q (.int n) H)
theorem lenA (h : X.K = K := by rfl) : CallR X (.builtin "len") (rLen K) := by
  subst h
  intro pins s σ H xs us Q I r ⟨x, n, hx, hl, q⟩
  have hb : n ≤ sizeLine := by
    cases x with
    | str y => rw [hl.2]; exact hl.1
    | byt y => rw [hl.2]; exact hl.1
    | ref p =>
      rcases hl with ⟨ys, h, e⟩ | ⟨ys, h, e⟩
      · obtain ⟨_, _, _, z⟩ := I.list h
        rw [e]; exact z
      · obtain ⟨_, _, _, z⟩ := I.tuple h
        rw [e]; exact z
    | _ => exact hl.elim
  exact call_len pins s σ H xs us Q I r ⟨x, n, hx, hl, q hb⟩
theorem isiA (h : X.K = K := by rfl) : CallR X (.builtin "isinstance") (rIsi K) := by subst h; exact call_isi
def rTupOf (K : PySem.W.Frag) : List V → Hp → VK → Prop := fun xs H Q => ∃ p ys, xs = [.ref p] ∧ ((SqL K H p ys ∧ ∀ l, H l = none → Q (.ref l) (upd H l (.tup ys))) ∨ (SqT K H p ys ∧ Q (.ref p) H))
theorem tupOf (h : X.K = K := by rfl) : CallR X (.type "tuple") (rTupOf K) := by subst h; exact call_tuple_of
def rLstOf (K : PySem.W.Frag) : List V → Hp → VK → Prop := fun xs H Q => ∃ p ys, xs = [.ref p] ∧ (SqL K H p ys ∨ SqT K H p ys) ∧ ∀ l, H l = none → Q (.ref l) (upd H l (.lst ys))
theorem lstOf (h : X.K = K := by rfl) : CallR X (.type "list") (rLstOf K) := by subst h; exact call_list_of
def rJoin (K : PySem.W.Frag) : V → List V → Hp → VK → Prop := fun x xs H Q => ∃ a p, ∃ ys : List Str, x = .str a ∧ xs = [.ref p] ∧ (SqL K H p (ys.map V.str) ∨ SqT K H p (ys.map V.str)) ∧
    (ys.map (·.length)).sum + ys.length * a.length ≤ 16777216 ∧ Q (.str (Txt.join a ys)) H
theorem joinA (h : X.K = K := by rfl) : MtR X "str.join" (rJoin K) := by subst h; exact mt_join
theorem indexA (h : X.K = K := by rfl) : MtR X "list.index" (rIndex K) := by subst h; exact mt_index
theorem getL (h : X.K = K := by rfl) : PGet X (rGetL K) := by subst h; exact get_list
theorem piL {tg l : Expr} {tl : TE} (hl : PE X l tl) (h : X.K = K := by rfl) : PI X tg l (iList K tl) := by subst h; exact pi_list hl
theorem piT {tg l : Expr} {tl : TE} (hl : PE X l tl) (h : X.K = K := by rfl) : PI X tg l (iTup K tl) := by subst h; exact pi_tup hl
theorem piE {e : Expr} {ta : TA} {p pos tpos : Pos} {elts : List Expr} {kk : Nat} (hg : Gl X "enumerate") (hm : X.mg "enumerate" = none) (ha : PA X [e] ta) (hs : starEach [e] X.env = [(false, eval e X.env)] := by rfl) (h : X.K = K := by rfl) :
    PI X (.Tuple elts kk tpos) (.Call (.Name "enumerate" p) [e] [] pos) (iEnum K ta) := by subst h; exact pi_enum hg hm ha hs
theorem piZ {e e2 : Expr} {ta : TA} {p pos tpos : Pos} {elts : List Expr} {kk : Nat} (hg : Gl X "zip") (hm : X.mg "zip" = none) (ha : PA X [e, e2] ta)
    (hs : starEach [e, e2] X.env = (false, eval e X.env) :: starEach [e2] X.env := by rfl) (hpl : (backTo pos (starEach [e2] X.env)).any (·.1) = false := by rfl) (h : X.K = K := by rfl) :
    PI X (.Tuple elts kk tpos) (.Call (.Name "zip" p) [e, e2] [] pos) (iZip K ta) := by subst h; exact pi_zip hg hm ha hs hpl
theorem bm0 {o : Expr} {to : TE} {name : Str} {apos cpos : Pos} {T id : String} {r : V → List V → Hp → VK → Prop} (pa : PlainAttrs T) (slot : Slot T name id) (hty : typeOf (.builtin id) = pure (.type "method_descriptor")) (hm : MtR X id r) (ho : PE X o to)
    (hbase : attributeBase o name X.env (eval o X.env) = eval o X.env := by rfl) (hline : (apos.endLine == cpos.line) = true := by rfl) (h : X.K = K := by rfl) : PE X (.Call (.Attribute o name apos) [] [] cpos) (tBM0 K T r to) := by subst h; exact pe_bm0 pa slot hty hm ho hbase hline
theorem bm {o e : Expr} {es : List Expr} {to : TE} {t : TA} {name : Str} {apos cpos : Pos} {T id : String} {r : V → List V → Hp → VK → Prop} (pa : PlainAttrs T) (slot : Slot T name id) (hty : typeOf (.builtin id) = pure (.type "method_descriptor")) (hm : MtR X id r) (ho : PE X o to) (ha : PA X (e :: es) t)
    (hbase : attributeBase o name X.env (eval o X.env) = eval o X.env := by rfl)
    (hfew : ((backTo cpos (starEach (e :: es) X.env)).all (fun x => !x.1) && (backToKw cpos (keywordEach [] X.env)).all (fun x => x.1.isSome)
      && decide ((e :: es).length + ([] : List Keyword).length + (if ([] : List Keyword).isEmpty then 0 else 1) < 30)) = true := by rfl)
    (hline : (apos.endLine == cpos.line) = true := by rfl) (hs : starEach (e :: es) X.env = (false, eval e X.env) :: starEach es X.env := by rfl) (hplain : (backTo cpos (starEach es X.env)).any (·.1) = false := by rfl) (h : X.K = K := by rfl) :
    PE X (.Call (.Attribute o name apos) (e :: es) [] cpos) (tBM K T r to t) := by subst h; exact pe_bm pa slot hty hm ho ha hbase hfew hline hs hplain
/-- a truth test, its reading shut behind a name -/
def tTru (K : PySem.W.Frag) (ta : TE) : TT := fun σ H Q => ta σ H fun x H' => ∃ k, TruV K x H' k ∧ Q k H'
theorem ptT {a : Expr} {ta : TE} (ha : PE X a ta) (he : ∀ whole, isTrue a X.env whole = (do let v ← whole; standAt a.pos; holding [v] (truthy v))) (h : X.K = K := by rfl) : PT X a (tTru K ta) := by subst h; exact pt_truth ha he
/-- a built-in type's name as a value -/
theorem tyN {x : Str} {n : String} {pos : Pos} (hg : Gl X x) (hm : X.mg x = none) (hv : bootBuiltins x = some (.type n)) (hn : x ≠ "__name__" := by decide) (hd : (x == ("__debug__" : Str)) = false := by decide) : PE X (.Name x pos) (tC (.ty n)) :=
  pe_bltn (v := .ty n) hg hm hv rfl hn hd
end

theorem lt62 {n : Nat} (h : n ≤ sizeLine) : (n : Int) < 2 ^ 62 := by
  have : n ≤ 16777216 := h
  omega
theorem lt60 {n : Nat} (h : n ≤ sizeLine) : n < 2 ^ 60 := by
  have : n ≤ 16777216 := h
  omega

/-- what H does not know may change -/
theorem Fr.mut {S : List Addr} {H H' : Hp} {p : Addr} {o : HO} (F : Fr S H H') (h : H p = none) : Fr S H (upd H' p o) := by
  refine ⟨fun a u e n => ?_, fun a xs e => ?_⟩
  · rw [upd_ne (ne_of_none e h)]; exact F.md a u e n
  · have hr := F.kp a xs e
    have ne : a ≠ p := by
      rcases e with e | ⟨ob, e⟩
      · exact ne_of_none e h
      · exact ne_of_none e h
    rcases hr with hr | ⟨ob, hr⟩
    · exact .inl (by rw [upd_ne ne]; exact hr)
    · exact .inr ⟨ob, by rw [upd_ne ne]; exact hr⟩

/-! ### texts -/
theorem fold_len (g : Str) (ys : List Str) : ∀ acc : Array Nat, (ys.foldl (fun acc p => acc ++ g.cps ++ p.cps) acc).size = acc.size + (ys.map (·.length)).sum + ys.length * g.length := by
  induction ys with
  | nil => intro acc; simp
  | cons y r ih =>
    intro acc
    rw [List.foldl_cons, ih]
    simp only [Array.size_append, List.map_cons, List.sum_cons, List.length_cons, Str.length, Nat.add_mul]
    omega
theorem join_len0 (ys : List Str) : (Txt.join (Str.ofString "") ys).length = (ys.map (·.length)).sum := by
  cases ys with
  | nil => rfl
  | cons y r =>
    show (List.foldl _ (List.headD (y :: r) Str.empty).cps (List.drop 1 (y :: r))).size = _
    rw [List.drop_one, List.tail_cons, fold_len]
    show y.cps.size + (r.map (·.length)).sum + r.length * 0 = _
    simp [Str.length]
theorem cutS_len (z : Str) (n : Nat): (cutS z none (some (n : Int))).length ≤ n := by
  unfold cutS HT.sIx
  simp only [Str.length]
  rw [if_neg (by omega)]
  simp
  omega

theorem str3 : ∀ i : _root_.Fin 1000, ((Str.ofString (toString ((i.val : Nat) : Int)))).length ≤ 3 := by decide +kernel
theorem len_app (a b : Str) : (a ++ b).length = a.length + b.length := Str.length_append a b
theorem mem_str {us : List Str} {v : V} (h : v ∈ us.map V.str) : ∃ s, v = .str s ∧ s ∈ us := by
  obtain ⟨s, h1, h2⟩ := List.mem_map.mp h
  exact ⟨s, h2.symm, h1⟩
theorem flat_strs (us : List Str) : (us.map V.str).all flatV = true := by
  induction us with
  | nil => rfl
  | cons u r ih => rw [List.map_cons, List.all_cons, ih]; rfl

/-! ### a part of a reading by what it ends in -/
theorem cps_if {c : TT} {t u : TS} {E : Ends} {σ : L2.St} {H : Hp} (P : Bool → Hp → Prop) (h1 : ∀ Q : Bool → Hp → Prop, (∀ b H', P b H' → Q b H') → c σ H Q) (h2 : ∀ H', P true H' → t E σ H') (h3 : ∀ H', P false H' → u E σ H') : tIfS c t u E σ H :=
  h1 _ fun b H' p => by
    cases b with
    | true => exact (if_pos rfl : (if true = true then t E σ H' else u E σ H') = _).symm ▸ h2 H' p
    | false => exact (if_neg Bool.false_ne_true : (if false = true then t E σ H' else u E σ H') = _).symm ▸ h3 H' p
theorem cps {te : TE} {σ : L2.St} {H : Hp} {Q : VK} (P : V → Hp → Prop) (h1 : ∀ Q : VK, (∀ v H', P v H' → Q v H') → te σ H Q) (h2 : ∀ v H', P v H' → Q v H') : te σ H Q := h1 Q h2
theorem ixS {z : Str} {i : Int} {H : Hp} {Q : VK} (hz : z.length ≤ sizeLine) (h0 : 0 ≤ i) (h1 : i < (z.length : Int)) (q : ∀ c, c ∈ z.cps.toList → Q (.str ⟨#[c]⟩) H) : rIxS (.str z) (.int i) H Q :=
  have hl : i.toNat < z.cps.toList.length := by simp [Str.length] at h1 ⊢; omega
  ⟨z, i, _, rfl, rfl, hz, at_get h0 hl, q _ (List.getElem_mem hl)⟩

theorem seq_ {t u : TS} {E : Ends} {σ : L2.St} {H : Hp} (h : t { E with nx := u E } σ H) : tSeq t u E σ H := h
theorem cut_ {t u : TS} {E : Ends} {σ : L2.St} {H : Hp} (Mid : L2.St → Hp → Prop) (h : t { E with nx := Mid } σ H) (h2 : ∀ σ' H', Mid σ' H' → u E σ' H') : C8.tCut t u E σ H := ⟨Mid, h, h2⟩

/-! ### dicts of texts and ints -/
/-- a dict from texts to ints, no key twice -/
structure SI (kvs : List (Key × V)) : Prop where
  nd : (kvs.map (·.1)).Nodup
  si : ∀ p ∈ kvs, ∃ (s : Str) (i : Int), p = (.inr s, .int i)
theorem SI.nil : SI [] := ⟨List.nodup_nil, fun _ h => absurd h (by simp)⟩
theorem SI.put {kvs : List (Key × V)} (h : SI kvs) (s : Str) (i : Int) : SI (putK kvs (.inr s) (.int i)) := by
  cases e : valV kvs (.inr s : Key) with
  | none =>
    refine ⟨nd_putK _ h.nd e, fun p hp => ?_⟩
    rw [putK_new _ e] at hp
    rcases List.mem_append.mp hp with q | q
    · exact h.si p q
    · exact ⟨s, i, List.mem_singleton.mp q⟩
  | some v =>
    have hk : putK kvs (.inr s : Key) (.int i) = kvs.map fun kv => if kv.1 = .inr s then (kv.1, .int i) else kv := by
      unfold putK
      rw [valV_any, e]
      rfl
    rw [hk]
    refine ⟨?_, fun p hp => ?_⟩
    · have e2 : (kvs.map fun kv => if kv.1 = (.inr s : Key) then (kv.1, V.int i) else kv).map (·.1) = kvs.map (·.1) := by
        rw [List.map_map]
        apply List.map_congr_left
        intro a _
        show (if a.1 = .inr s then (a.1, V.int i) else a).1 = a.1
        split <;> rfl
      rw [e2]; exact h.nd
    · obtain ⟨a, ha, rfl⟩ := List.mem_map.mp hp
      obtain ⟨t, j, rfl⟩ := h.si a ha
      show ∃ s_1 i_1, (if (Sum.inr t : Key) = .inr s then ((Sum.inr t : Key), V.int i) else (Sum.inr t, .int j)) = (.inr s_1, .int i_1)
      split
      · exact ⟨t, i, rfl⟩
      · exact ⟨t, j, rfl⟩
/-- a key's own value -/
theorem SI.val {kvs : List (Key × V)} (h : SI kvs) {p : Key × V} (hp : p ∈ kvs) : valV kvs p.1 = some p.2 := by
  have hn := h.nd
  clear h
  induction kvs with
  | nil => cases hp
  | cons q r ih =>
    rw [List.map_cons, List.nodup_cons] at hn
    rcases List.mem_cons.mp hp with e | e
    · subst e; exact valV_pos rfl
    · rw [valV_neg (fun z => hn.1 (by rw [z]; exact List.mem_map.mpr ⟨p, e, rfl⟩))]
      exact ih e hn.2
/-- the names that the dict knows -/
def Knows (kvs : List (Key × V)) (s : Str) : Prop := ∃ i : Int, valV kvs (.inr s) = some (.int i)
theorem Knows.put {kvs : List (Key × V)} {s : Str} (h : Knows kvs s) (t : Str) (j : Int) : Knows (putK kvs (.inr t) (.int j)) s := by
  obtain ⟨i, h⟩ := h
  unfold Knows
  rw [valV_put]
  split
  · exact ⟨j, rfl⟩
  · exact ⟨i, h⟩
theorem Knows.new {kvs : List (Key × V)} (t : Str) (j : Int) : Knows (putK kvs (.inr t) (.int j)) t := ⟨j, by rw [valV_put, if_pos rfl]⟩
/-- the values as a function -/
def env (kvs : List (Key × V)) (s : Str) : Int := match valV kvs (.inr s : Key) with
  | some (.int i) => i
  | _ => 0
theorem Knows.env {kvs : List (Key × V)} {s : Str} (h : Knows kvs s) : valV kvs (.inr s) = some (.int (env kvs s)) := by
  obtain ⟨i, h⟩ := h
  unfold G.env
  rw [h]

/-- x = e; rest: e by what it ends in -/
theorem cps_set {te : TE} {i : Nat} {u : TS} {E : Ends} {σ : L2.St} {H : Hp} (P : V → Hp → Prop) (h1 : ∀ Q : VK, (∀ v H', P v H' → Q v H') → te σ H Q) (h2 : ∀ v H', P v H' → u E (σ.set i (some v)) H') : tSeq (tAsg te (gName i)) u E σ H := h1 _ h2
theorem cps_drop {te : TE} {u : TS} {E : Ends} {σ : L2.St} {H : Hp} (P : V → Hp → Prop) (h1 : ∀ Q : VK, (∀ v H', P v H' → Q v H') → te σ H Q) (h2 : ∀ v H', P v H' → u E σ H') : tSeq (tDrop te) u E σ H := h1 _ h2
theorem cps_drop1 {te : TE} {E : Ends} {σ : L2.St} {H : Hp} (P : V → Hp → Prop) (h1 : ∀ Q : VK, (∀ v H', P v H' → Q v H') → te σ H Q) (h2 : ∀ v H', P v H' → E.nx σ H') : tDrop te E σ H := h1 _ h2

theorem dput_s {H : Hp} {a : Addr} {kvs : List (Key × V)} {s : Str} {v : V} (e : H a = some (.dK kvs)) (hl : kvs.length < sizeLine) : DPut H a (.str s) v (upd H a (.dK (putK kvs (.inr s) v))) := DPut.k (k := .inr s) e hl
end G

namespace Lw
open PySem L2 G
-- short words: steps of a reading
local macro_rules | `(tactic| walk_at "sqT") => `(tactic| first | assumption | (refine Fr.sqT (by assumption) ?_; walk_at "sqT") | (refine Fr.sqT (Fr.new (S := []) (by assumption)) ?_; walk_at "sqT"))
local macro_rules | `(tactic| walk_at "sqL") => `(tactic| first | assumption | exact SqL.of (by assumption) | exact SqL.of upd_same)
local macro_rules | `(tactic| walk_at "da") => `(tactic| first | assumption | (refine Da.f ?_ (by assumption); walk_at "da") | (refine Da.f ?_ (Fr.new (S := []) (by assumption)); walk_at "da"))
local macro_rules | `(tactic| walk_at "das") => `(tactic| first | assumption | (refine Das.f ?_ (by assumption); walk_at "das") | (refine Das.f ?_ (Fr.new (S := []) (by assumption)); walk_at "das"))
local macro_rules | `(tactic| walk_at "hp") => `(tactic| first | assumption | (refine Fr.md (by assumption) _ _ ?_ (by simp); walk_at "hp") | (refine Fr.md (Fr.new (S := []) (by assumption)) _ _ ?_ (by simp); walk_at "hp"))
local macro_rules | `(tactic| walk_at "fr") => `(tactic| first | exact Fr.refl _ | assumption | exact Fr.new (by assumption) | (refine Fr.trans ?_ (by assumption); walk_at "fr") | (refine Fr.trans ?_ (Fr.new (by assumption)); walk_at "fr"))
local macro_rules | `(tactic| walk_at "side") => `(tactic| first
  | omega
  | exact Or.inl ⟨by omega, by omega⟩
  | exact Or.inr ⟨by omega, by omega⟩
  | exact cdw (by omega) (by omega)
  | exact ⟨by decide, by decide, by decide⟩
  | exact sz100 rfl
  | (with_reducible exact lt62 (by assumption))
  | ((with_reducible show (0 : Int) < 1 * 2 ^ Int.toNat 4000); exact Int.mul_pos (by decide) (Int.pow_pos (by decide)))
  | (show _ ≤ 16777216; omega)
  | (show _ < 16777216; omega))
local macro_rules | `(tactic| walk_at "tyx") => `(tactic| first | exact .base (.int _) | exact .base (.str _) | exact .base (.bl _) | exact .base .non | exact tyx_tup (by walk_at "sqT") | exact .base (.lst (by assumption)))
-- one step
local macro_rules | `(tactic| walk_at "s") => `(tactic| first
  | refine ⟨_, rfl, ?_⟩
  | refine ⟨_, _, rfl, rfl, ?_⟩
  | refine ⟨rfl, ?_⟩
  | (refine ⟨_, ?xs, _, ?v, rfl, rfl, ?h1, ?h2, ?q⟩; (case h1 => walk_at "sqT"); (case h2 => rfl))
  | (refine ⟨_, ?xs, _, ?v, rfl, rfl, ?h1, ?h2, ?q⟩; (case h1 => walk_at "sqL"); (case h2 => rfl))
  | (refine' ⟨_, _, rfl, Or.inl ⟨_, ?h, rfl⟩, fun hlen => ?q⟩; (case h => walk_at "sqL"))
  | (refine' ⟨_, _, rfl, Or.inr ⟨_, ?h, rfl⟩, fun hlen => ?q⟩; (case h => walk_at "sqT"))
  | (refine' And.intro (Or.inl ⟨rfl, _, ?h⟩) ?q; (case h => first | exact SqL.of (by walk_at "hp") | walk_at "sqL"))
  | refine Or.inl ⟨_, rfl, ?_⟩
  | refine Or.inr ⟨_, rfl, ?_⟩
  | (refine' ⟨_, _, _, _, true, rfl, .ty _, ?h, kit_ty ?k, ?q⟩; (case h => walk_at "tyx"); (case k => decide +kernel))
  | (refine' ⟨_, _, _, _, false, rfl, .ty _, ?h, kit_ty ?k, ?q⟩; (case h => walk_at "tyx"); (case k => decide +kernel))
  | refine if_yes (show _ = _ from rfl) ?_
  | refine if_no (by decide +kernel) ?_
  | (refine if_no ?h ?q; (case h => (intro h; cases h; done)))
  | refine ifc (by decide +kernel) ?_
  | refine ifnc (by decide +kernel) ?_
  | (refine ⟨sz100 rfl, fun p hp => ?_⟩)
  | (refine And.intro ?c ?q; (case c => walk_at "side"))
  | (refine ⟨_, _, rfl, Or.inr (SqT.of upd_same), rfl, rfl, ?_⟩)
  | (refine if_yes ?_ ?_; (omega))
  | (refine if_no ?_ ?_; (omega))
  | (refine ifn_yes ?_ ?_; (omega))
  | (refine ifn_no ?_ ?_; (omega)))
local macro_rules | `(tactic| walk_at "r") => `(tactic| repeat (walk_at "s"))
def top (i : Nat) : Stmt := PySem.Challenge.pw_extrasmeet_k12_values_and_tests.main.body.getD i (.Pass ⟨0, 0, 0, 0⟩)
abbrev s_value_of : Stmt := top 1
abbrev N_value_of : List Str := ["expr", "values", "left", "right"]
theorem sc_value_of : FnScope N_value_of ["expr", "values"] (defScope s_value_of) := ⟨rfl, rfl, rfl, by decide +kernel, rfl, by decide +kernel, by decide +kernel⟩
abbrev s_test_holds : Stmt := top 2
abbrev N_test_holds : List Str := ["sign", "left", "right"]
theorem sc_test_holds : FnScope N_test_holds ["sign", "left", "right"] (defScope s_test_holds) := ⟨rfl, rfl, rfl, by decide +kernel, rfl, by decide +kernel, by decide +kernel⟩
abbrev s_holds : Stmt := top 3
abbrev N_holds : List Str := ["cond", "values", "head"]
theorem sc_holds : FnScope N_holds ["cond", "values"] (defScope s_holds) := ⟨rfl, rfl, rfl, by decide +kernel, rfl, by decide +kernel, by decide +kernel⟩
abbrev s__law_begin : Stmt := top 5
abbrev N__law_begin : List Str := ["script", "cell"]
theorem sc__law_begin : FnScope N__law_begin ["script"] (defScope s__law_begin) := ⟨rfl, rfl, rfl, by decide +kernel, rfl, by decide +kernel, by decide +kernel⟩
abbrev s__law_draw : Stmt := top 6
abbrev N__law_draw : List Str := ["d", "many", "found", "size"]
theorem sc__law_draw : FnScope N__law_draw ["d", "many"] (defScope s__law_draw) := ⟨rfl, rfl, rfl, by decide +kernel, rfl, by decide +kernel, by decide +kernel⟩
abbrev s__law_pick : Stmt := top 7
abbrev N__law_pick : List Str := ["d", "row"]
theorem sc__law_pick : FnScope N__law_pick ["d", "row"] (defScope s__law_pick) := ⟨rfl, rfl, rfl, by decide +kernel, rfl, by decide +kernel, by decide +kernel⟩
abbrev s__law_is_int : Stmt := top 8
abbrev N__law_is_int : List Str := ["thing"]
theorem sc__law_is_int : FnScope N__law_is_int ["thing"] (defScope s__law_is_int) := ⟨rfl, rfl, rfl, by decide +kernel, rfl, by decide +kernel, by decide +kernel⟩
abbrev s__law_same : Stmt := top 9
abbrev N__law_same : List Str := ["told", "due", "k"]
theorem sc__law_same : FnScope N__law_same ["told", "due"] (defScope s__law_same) := ⟨rfl, rfl, rfl, by decide +kernel, rfl, by decide +kernel, by decide +kernel⟩
abbrev s__law_is_reserved : Stmt := top 10
abbrev N__law_is_reserved : List Str := ["name", "text"]
theorem sc__law_is_reserved : FnScope N__law_is_reserved ["name"] (defScope s__law_is_reserved) := ⟨rfl, rfl, rfl, by decide +kernel, rfl, by decide +kernel, by decide +kernel⟩
abbrev s__law_name : Stmt := top 11
abbrev N__law_name : List Str := ["d", "used", "signs", "name", "k", "spare"]
theorem sc__law_name : FnScope N__law_name ["d", "used"] (defScope s__law_name) := ⟨rfl, rfl, rfl, by decide +kernel, rfl, by decide +kernel, by decide +kernel⟩
abbrev s__law_value : Stmt := top 12
abbrev N__law_value : List Str := ["expr", "env", "right"]
theorem sc__law_value : FnScope N__law_value ["expr", "env"] (defScope s__law_value) := ⟨rfl, rfl, rfl, by decide +kernel, rfl, by decide +kernel, by decide +kernel⟩
abbrev s__law_holds : Stmt := top 13
abbrev N__law_holds : List Str := ["cond", "env", "gap"]
theorem sc__law_holds : FnScope N__law_holds ["cond", "env"] (defScope s__law_holds) := ⟨rfl, rfl, rfl, by decide +kernel, rfl, by decide +kernel, by decide +kernel⟩
abbrev s__law_grown_expr : Stmt := top 14
abbrev N__law_grown_expr : List Str := ["d", "names", "nodes", "deep", "head", "many", "left"]
theorem sc__law_grown_expr : FnScope N__law_grown_expr ["d", "names", "nodes", "deep"] (defScope s__law_grown_expr) := ⟨rfl, rfl, rfl, by decide +kernel, rfl, by decide +kernel, by decide +kernel⟩
abbrev s__law_grown_cond : Stmt := top 15
abbrev N__law_grown_cond : List Str := ["d", "names", "nodes", "deep", "kind", "many", "left", "sign"]
theorem sc__law_grown_cond : FnScope N__law_grown_cond ["d", "names", "nodes", "deep"] (defScope s__law_grown_cond) := ⟨rfl, rfl, rfl, by decide +kernel, rfl, by decide +kernel, by decide +kernel⟩
abbrev s__law_each_sign : Stmt := top 16
abbrev N__law_each_sign : List Str := ["d", "names", "one", "more", "found", "sign"]
theorem sc__law_each_sign : FnScope N__law_each_sign ["d", "names"] (defScope s__law_each_sign) := ⟨rfl, rfl, rfl, by decide +kernel, rfl, by decide +kernel, by decide +kernel⟩
abbrev s__law_drawn_values : Stmt := top 17
abbrev N__law_drawn_values : List Str := ["d", "names", "values", "name", "kind"]
theorem sc__law_drawn_values : FnScope N__law_drawn_values ["d", "names"] (defScope s__law_drawn_values) := ⟨rfl, rfl, rfl, by decide +kernel, rfl, by decide +kernel, by decide +kernel⟩
abbrev s__law_agrees : Stmt := top 18
abbrev N__law_agrees : List Str := ["exprs", "conds", "handed", "kept", "name", "expr", "due", "cond"]
theorem sc__law_agrees : FnScope N__law_agrees ["exprs", "conds", "handed"] (defScope s__law_agrees) := ⟨rfl, rfl, rfl, by decide +kernel, rfl, by decide +kernel, by decide +kernel⟩
abbrev s_law : Stmt := top 19
abbrev N_law : List Str := ["script", "d", "used", "names", "exprs", "conds", "spare", "first", "other", "turn", "name", "k"]
theorem sc_law : FnScope N_law ["script"] (defScope s_law) := ⟨rfl, rfl, rfl, by decide +kernel, rfl, by decide +kernel, by decide +kernel⟩
structure Top (K : PySem.W.Frag) (mg : Str → Option Value) : Prop where
  b_abs : mg "abs" = none
  b_bool : mg "bool" = none
  b_int : mg "int" = none
  b_isinstance : mg "isinstance" = none
  b_len : mg "len" = none
  b_range : mg "range" = none
  b_str : mg "str" = none
  b_tuple : mg "tuple" = none
  d_value_of : Df K mg "value_of" s_value_of ["expr", "values"]
  d_test_holds : Df K mg "test_holds" s_test_holds ["sign", "left", "right"]
  d_holds : Df K mg "holds" s_holds ["cond", "values"]
  d__law_begin : Df K mg "_law_begin" s__law_begin ["script"]
  d__law_draw : Df K mg "_law_draw" s__law_draw ["d", "many"]
  d__law_pick : Df K mg "_law_pick" s__law_pick ["d", "row"]
  d__law_is_int : Df K mg "_law_is_int" s__law_is_int ["thing"]
  d__law_same : Df K mg "_law_same" s__law_same ["told", "due"]
  d__law_is_reserved : Df K mg "_law_is_reserved" s__law_is_reserved ["name"]
  d__law_name : Df K mg "_law_name" s__law_name ["d", "used"]
  d__law_value : Df K mg "_law_value" s__law_value ["expr", "env"]
  d__law_holds : Df K mg "_law_holds" s__law_holds ["cond", "env"]
  d__law_grown_expr : Df K mg "_law_grown_expr" s__law_grown_expr ["d", "names", "nodes", "deep"]
  d__law_grown_cond : Df K mg "_law_grown_cond" s__law_grown_cond ["d", "names", "nodes", "deep"]
  d__law_each_sign : Df K mg "_law_each_sign" s__law_each_sign ["d", "names"]
  d__law_drawn_values : Df K mg "_law_drawn_values" s__law_drawn_values ["d", "names"]
  d__law_agrees : Df K mg "_law_agrees" s__law_agrees ["exprs", "conds", "handed"]
  d_law : Df K mg "law" s_law ["script"]

inductive Ex where
  | num (n : Int) | fld (s : Str) | plus (a b : Ex) | minus (a b : Ex)
def Ex.d : Ex → D
  | .num n => .tup [.str "num", .int n]
  | .fld s => .tup [.str "field", .str s]
  | .plus a b => .tup [.str "plus", a.d, b.d]
  | .minus a b => .tup [.str "minus", a.d, b.d]
def Ex.val (ρ : Str → Int) : Ex → Int
  | .num n => n
  | .fld s => ρ s
  | .plus a b => a.val ρ + b.val ρ
  | .minus a b => a.val ρ - b.val ρ
def Ex.depth : Ex → Nat
  | .num _ => 1
  | .fld _ => 1
  | .plus a b => max a.depth b.depth + 1
  | .minus a b => max a.depth b.depth + 1
def Ex.ok (P : Str → Prop) : Ex → Prop
  | .num _ => True
  | .fld s => P s
  | .plus a b => a.ok P ∧ b.ok P
  | .minus a b => a.ok P ∧ b.ok P

inductive Sg where | eq | ne | lt | le | gt | ge
def Sg.s : Sg → Str
  | .eq => "=" | .ne => "/=" | .lt => "<" | .le => "<=" | .gt => ">" | .ge => ">="
def Sg.val (i j : Int) : Sg → Bool
  | .eq => decide (i = j) | .ne => !decide (i = j) | .lt => decide (i < j) | .le => decide (i ≤ j) | .gt => decide (j < i) | .ge => decide (j ≤ i)
inductive Cd where
  | yes | no | test (g : Sg) (a b : Ex) | not (a : Cd) | and (a b : Cd) | or (a b : Cd)
def Cd.d : Cd → D
  | .yes => .tup [.str "yes"]
  | .no => .tup [.str "no"]
  | .test g a b => .tup [.str "test", .str g.s, a.d, b.d]
  | .not a => .tup [.str "not", a.d]
  | .and a b => .tup [.str "and", a.d, b.d]
  | .or a b => .tup [.str "or", a.d, b.d]
def Cd.val (ρ : Str → Int) : Cd → Bool
  | .yes => true
  | .no => false
  | .test g a b => g.val (a.val ρ) (b.val ρ)
  | .not a => !a.val ρ
  | .and a b => a.val ρ && b.val ρ
  | .or a b => a.val ρ || b.val ρ
def Cd.depth : Cd → Nat
  | .yes => 1
  | .no => 1
  | .test _ a b => max a.depth b.depth + 1
  | .not a => a.depth + 1
  | .and a b => max a.depth b.depth + 1
  | .or a b => max a.depth b.depth + 1
def Cd.ok (P : Str → Prop) : Cd → Prop
  | .yes => True
  | .no => True
  | .test _ a b => a.ok P ∧ b.ok P
  | .not a => a.ok P
  | .and a b => a.ok P ∧ b.ok P
  | .or a b => a.ok P ∧ b.ok P

section
variable {P : Program} {w : World} {K : PySem.W.Frag} {mg : Str → Option Value} {base : Heap}
/-- the names' values in a dict -/
def Holds (kvs : List (Key × V)) (ρ : Str → Int) (s : Str) : Prop := valV kvs (.inr s) = some (.int (ρ s))
def spVal (K : PySem.W.Frag) (n : Nat) : Sp := fun vs H Q _ => ∃ (v : V) (p : Addr) (kvs : List (Key × V)) (ρ : Str → Int) (e : Ex), vs = [v, .ref p] ∧ e.depth ≤ n ∧ Da K H v e.d ∧ H p = some (.dK kvs) ∧ e.ok (Holds kvs ρ) ∧
  ∀ H', Fr [] H H' → Q (.int (e.val ρ)) H'
theorem ok_value_of (T : Top K mg) : ∀ n, Cal P w K mg base (n + 1) "value_of" (spVal K n)
  | 0 => by
    refine cal T.d_value_of sc_value_of (fun vs H Q E h => ?_) (fun f cdv A outer s H vs Q E hr h => ?_)
    · obtain ⟨v, p, kvs, ρ, e, rfl, _⟩ := h
      rfl
    · obtain ⟨v, p, kvs, ρ, e, rfl, hd, _⟩ := h
      cases e <;> simp [Ex.depth] at hd
  | n + 1 => by
    have c_value_of := ok_value_of T n
    refine cal T.d_value_of sc_value_of (fun vs H Q E h => ?_) (fun f cdv A outer s H vs Q E hr h => ?_)
    · obtain ⟨v, p, kvs, ρ, e, rfl, _⟩ := h
      rfl
    · obtain ⟨v, p, kvs, ρ, e, rfl, hd, hv, hp, ok, k⟩ := h
      refine ⟨_, (pss_cons (ps_if (pt_cmpR op_eq (pe_ix (G.ixT (K := K)) (pv 0) pe_int (fun _ _ => rfl)) pe_str (nomark _))
      (pss_one (ps_ret (pe_ix (G.ixT (K := K)) (pv 0) pe_int (fun _ _ => rfl))))
      pss_nil)
    (pss_cons (ps_if (pt_cmpR op_eq (pe_ix (G.ixT (K := K)) (pv 0) pe_int (fun _ _ => rfl)) pe_str (nomark _))
      (pss_one (ps_ret (pe_dget (hu_of hr) (pv 1) (pe_ix (G.ixT (K := K)) (pv 0) pe_int (fun _ _ => rfl)) (fun _ _ => rfl))))
      pss_nil)
    (pss_cons (ps_set (i := 2) sc_value_of.nd rfl (Or.inl rfl) (G.pe_c c_value_of hr (by omega) rfl (pa_cons (pe_ix (G.ixT (K := K)) (pv 0) pe_int (fun _ _ => rfl)) (pa_cons (pv 1) pa_nil))))
    (pss_cons (ps_set (i := 3) sc_value_of.nd rfl (Or.inl rfl) (G.pe_c c_value_of hr (by omega) rfl (pa_cons (pe_ix (G.ixT (K := K)) (pv 0) pe_int (fun _ _ => rfl)) (pa_cons (pv 1) pa_nil))))
    (pss_cons (ps_if (pt_cmpR op_eq (pe_ix (G.ixT (K := K)) (pv 0) pe_int (fun _ _ => rfl)) pe_str (nomark _))
      (pss_one (ps_ret (pe_op op_add (pv 2) (pv 3))))
      pss_nil)
    (pss_one (ps_ret (pe_op op_sub (pv 2) (pv 3))))))))), ?_⟩
      cases e with
      | num i =>
        obtain ⟨a, v1, rfl, hT, h1⟩ := un2 hv
        cases h1
        walk_at "r"
        exact k _ (Fr.refl _)
      | fld s =>
        obtain ⟨a, v1, rfl, hT, h1⟩ := un2 hv
        cases h1
        walk_at "r"
        exact ⟨_, _, rfl, dget_s hp ok, k _ (Fr.refl _)⟩
      | plus e1 e2 =>
        obtain ⟨a, v1, v2, rfl, hT, h1, h2⟩ := un3 hv
        simp only [Ex.depth] at hd
        walk_at "r"
        refine go ⟨_, _, kvs, ρ, e1, rfl, by omega, h1, hp, ok.1, fun H1 F1 => ?_⟩
        walk_at "r"
        refine go ⟨_, _, kvs, ρ, e2, rfl, by omega, h2.f F1, F1.md _ _ hp (by simp), ok.2, fun H2 F2 => ?_⟩
        walk_at "r"
        exact k _ (F1.trans F2)
      | minus e1 e2 =>
        obtain ⟨a, v1, v2, rfl, hT, h1, h2⟩ := un3 hv
        simp only [Ex.depth] at hd
        walk_at "r"
        refine go ⟨_, _, kvs, ρ, e1, rfl, by omega, h1, hp, ok.1, fun H1 F1 => ?_⟩
        walk_at "r"
        refine go ⟨_, _, kvs, ρ, e2, rfl, by omega, h2.f F1, F1.md _ _ hp (by simp), ok.2, fun H2 F2 => ?_⟩
        walk_at "r"
        exact k _ (F1.trans F2)
def spTest : Sp := fun vs H Q _ => ∃ (g : Sg) (i j : Int), vs = [.str g.s, .int i, .int j] ∧ Q (.bl (g.val i j)) H
theorem ok_test_holds (T : Top K mg) : Cal P w K mg base 1 "test_holds" spTest := by
  refine cal T.d_test_holds sc_test_holds (fun vs H Q E h => ?_) (fun f cdv A outer s H vs Q E hr h => ?_)
  · obtain ⟨g, i, j, rfl, _⟩ := h
    rfl
  · obtain ⟨g, i, j, rfl, k⟩ := h
    refine ⟨_, (pss_cons (ps_if (pt_cmpR op_eq (pv 0) pe_str (nomark _))
      (pss_one (ps_ret (pe_cmpR op_eq (pv 1) (pv 2) (nomark _))))
      pss_nil)
    (pss_cons (ps_if (pt_cmpR op_eq (pv 0) pe_str (nomark _))
      (pss_one (ps_ret (pe_cmpR op_ne (pv 1) (pv 2) (nomark _))))
      pss_nil)
    (pss_cons (ps_if (pt_cmpR op_eq (pv 0) pe_str (nomark _))
      (pss_one (ps_ret (pe_cmpR op_lt (pv 1) (pv 2) (nomark _))))
      pss_nil)
    (pss_cons (ps_if (pt_cmpR op_eq (pv 0) pe_str (nomark _))
      (pss_one (ps_ret (pe_cmpR op_le (pv 1) (pv 2) (nomark _))))
      pss_nil)
    (pss_cons (ps_if (pt_cmpR op_eq (pv 0) pe_str (nomark _))
      (pss_one (ps_ret (pe_cmpR op_gt (pv 1) (pv 2) (nomark _))))
      pss_nil)
    (pss_one (ps_ret (pe_cmpR op_ge (pv 1) (pv 2) (nomark _))))))))), ?_⟩
    cases g <;> unfold Sg.s <;> walk_at "r"
    · exact q_bl k (by simp [Sg.val])
    · exact q_bl k (by simp [Sg.val])
    all_goals exact k
def spHolds (K : PySem.W.Frag) (n : Nat) : Sp := fun vs H Q _ => ∃ (v : V) (p : Addr) (kvs : List (Key × V)) (ρ : Str → Int) (c : Cd), vs = [v, .ref p] ∧ c.depth ≤ n ∧ Da K H v c.d ∧ H p = some (.dK kvs) ∧ c.ok (Holds kvs ρ) ∧
  ∀ H', Fr [] H H' → Q (.bl (c.val ρ)) H'
theorem ok_holds (T : Top K mg) : ∀ n, Cal P w K mg base (n + 2) "holds" (spHolds K n)
  | 0 => by
    refine cal T.d_holds sc_holds (fun vs H Q E h => ?_) (fun f cdv A outer s H vs Q E hr h => ?_)
    · obtain ⟨v, p, kvs, ρ, e, rfl, _⟩ := h
      rfl
    · obtain ⟨v, p, kvs, ρ, e, rfl, hd, _⟩ := h
      cases e <;> simp [Cd.depth] at hd
  | n + 1 => by
    have c_holds := ok_holds T n
    have c_value_of : Cal P w K mg base (n + 1) "value_of" (spVal K n) := ok_value_of T n
    have c_test_holds : Cal P w K mg base 1 "test_holds" spTest := ok_test_holds T
    refine cal T.d_holds sc_holds (fun vs H Q E h => ?_) (fun f cdv A outer s H vs Q E hr h => ?_)
    · obtain ⟨v, p, kvs, ρ, e, rfl, _⟩ := h
      rfl
    · obtain ⟨v, p, kvs, ρ, e, rfl, hd, hv, hp, ok, k⟩ := h
      refine ⟨_, (pss_cons (ps_set (i := 2) sc_holds.nd rfl (Or.inl rfl) (pe_ix (G.ixT (K := K)) (pv 0) pe_int (fun _ _ => rfl)))
    (pss_cons (ps_if (pt_cmpR op_eq (pv 2) pe_str (nomark _))
      (pss_one (ps_ret (G.pe_c c_test_holds hr (by omega) rfl (pa_cons (pe_ix (G.ixT (K := K)) (pv 0) pe_int (fun _ _ => rfl)) (pa_cons (G.pe_c c_value_of hr (by omega) rfl (pa_cons (pe_ix (G.ixT (K := K)) (pv 0) pe_int (fun _ _ => rfl)) (pa_cons (pv 1) pa_nil))) (pa_cons (G.pe_c c_value_of hr (by omega) rfl (pa_cons (pe_ix (G.ixT (K := K)) (pv 0) pe_int (fun _ _ => rfl)) (pa_cons (pv 1) pa_nil))) pa_nil))))))
      pss_nil)
    (pss_cons (ps_if (pt_cmpR op_eq (pv 2) pe_str (nomark _))
      (pss_one (ps_ret (pe_not (G.pe_c c_holds hr (by omega) rfl (pa_cons (pe_ix (G.ixT (K := K)) (pv 0) pe_int (fun _ _ => rfl)) (pa_cons (pv 1) pa_nil))))))
      pss_nil)
    (pss_cons (ps_if (pt_cmpR op_eq (pv 2) pe_str (nomark _))
      (pss_one (ps_ret (pe_and (G.pe_c c_holds hr (by omega) rfl (pa_cons (pe_ix (G.ixT (K := K)) (pv 0) pe_int (fun _ _ => rfl)) (pa_cons (pv 1) pa_nil))) (pe_one (G.pe_c c_holds hr (by omega) rfl (pa_cons (pe_ix (G.ixT (K := K)) (pv 0) pe_int (fun _ _ => rfl)) (pa_cons (pv 1) pa_nil)))))))
      pss_nil)
    (pss_cons (ps_if (pt_cmpR op_eq (pv 2) pe_str (nomark _))
      (pss_one (ps_ret (pe_or (G.pe_c c_holds hr (by omega) rfl (pa_cons (pe_ix (G.ixT (K := K)) (pv 0) pe_int (fun _ _ => rfl)) (pa_cons (pv 1) pa_nil))) (pe_one (G.pe_c c_holds hr (by omega) rfl (pa_cons (pe_ix (G.ixT (K := K)) (pv 0) pe_int (fun _ _ => rfl)) (pa_cons (pv 1) pa_nil)))))))
      pss_nil)
    (pss_one (ps_ret (pe_cmpR op_eq (pv 2) pe_str (nomark _))))))))), ?_⟩
      cases e with
      | yes =>
        obtain ⟨a, rfl, hT⟩ := un1 hv
        walk_at "r"
        exact q_bl (k _ (Fr.refl _)) (by show _ = true; decide +kernel)
      | no =>
        obtain ⟨a, rfl, hT⟩ := un1 hv
        walk_at "r"
        exact q_bl (k _ (Fr.refl _)) (by show _ = false; decide +kernel)
      | test g e1 e2 =>
        obtain ⟨a, v1, v2, v3, rfl, hT, h1, h2, h3⟩ := un4 hv
        cases h1
        simp only [Cd.depth] at hd
        walk_at "r"
        refine go ⟨_, _, kvs, ρ, e1, rfl, by omega, h2, hp, ok.1, fun H1 F1 => ?_⟩
        walk_at "r"
        refine go ⟨_, _, kvs, ρ, e2, rfl, by omega, h3.f F1, F1.md _ _ hp (by simp), ok.2, fun H2 F2 => ?_⟩
        exact go ⟨g, _, _, rfl, k _ (F1.trans F2)⟩
      | not e1 =>
        obtain ⟨a, v1, rfl, hT, h1⟩ := un2 hv
        simp only [Cd.depth] at hd
        walk_at "r"
        refine go ⟨_, _, kvs, ρ, e1, rfl, by omega, h1, hp, ok, fun H1 F1 => ?_⟩
        walk_at "r"
        exact k _ F1
      | and e1 e2 =>
        obtain ⟨a, v1, v2, rfl, hT, h1, h2⟩ := un3 hv
        simp only [Cd.depth] at hd
        walk_at "r"
        refine go ⟨_, _, kvs, ρ, e1, rfl, by omega, h1, hp, ok.1, fun H1 F1 => ?_⟩
        refine ⟨_, rfl, ifb_both (fun e => ?_) (fun e => ?_)⟩
        · walk_at "r"
          refine go ⟨_, _, kvs, ρ, e2, rfl, by omega, h2.f F1, F1.md _ _ hp (by simp), ok.2, fun H2 F2 => ?_⟩
          exact q_bl (k _ (F1.trans F2)) (by simp [Cd.val, e])
        · exact q_bl (k _ F1) (by simp [Cd.val, e])
      | or e1 e2 =>
        obtain ⟨a, v1, v2, rfl, hT, h1, h2⟩ := un3 hv
        simp only [Cd.depth] at hd
        walk_at "r"
        refine go ⟨_, _, kvs, ρ, e1, rfl, by omega, h1, hp, ok.1, fun H1 F1 => ?_⟩
        refine ⟨_, rfl, ifb_both (fun e => ?_) (fun e => ?_)⟩
        · exact q_bl (k _ F1) (by simp [Cd.val, e])
        · walk_at "r"
          refine go ⟨_, _, kvs, ρ, e2, rfl, by omega, h2.f F1, F1.md _ _ hp (by simp), ok.2, fun H2 F2 => ?_⟩
          exact q_bl (k _ (F1.trans F2)) (by simp [Cd.val, e])
end

section
variable {P : Program} {w : World} {K : PySem.W.Frag} {mg : Str → Option Value} {base : Heap}
theorem ok_law_value (T : Top K mg) : ∀ n, Cal P w K mg base (n + 1) "_law_value" (spVal K n)
  | 0 => by
    refine cal T.d__law_value sc__law_value (fun vs H Q E h => ?_) (fun f cdv A outer s H vs Q E hr h => ?_)
    · obtain ⟨v, p, kvs, ρ, e, rfl, _⟩ := h
      rfl
    · obtain ⟨v, p, kvs, ρ, e, rfl, hd, _⟩ := h
      cases e <;> simp [Ex.depth] at hd
  | n + 1 => by
    have c__law_value := ok_law_value T n
    refine cal T.d__law_value sc__law_value (fun vs H Q E h => ?_) (fun f cdv A outer s H vs Q E hr h => ?_)
    · obtain ⟨v, p, kvs, ρ, e, rfl, _⟩ := h
      rfl
    · obtain ⟨v, p, kvs, ρ, e, rfl, hd, hv, hp, ok, k⟩ := h
      refine ⟨_, (pss_cons (ps_if (pt_cmpR (G.inQ (K := K)) (pe_ix (G.ixT (K := K)) (pv 0) pe_int (fun _ _ => rfl)) (pe_tup (pa_cons pe_str (pa_cons pe_str pa_nil))) (by rfl))
      (pss_one (ps_ret (pe_ifExp (pt_cmpR op_eq (pe_ix (G.ixT (K := K)) (pv 0) pe_int (fun _ _ => rfl)) pe_str (nomark _)) (pe_ix (G.ixT (K := K)) (pv 0) pe_int (fun _ _ => rfl)) (pe_dget (hu_of hr) (pv 1) (pe_ix (G.ixT (K := K)) (pv 0) pe_int (fun _ _ => rfl)) (fun _ _ => rfl)))))
      pss_nil)
    (pss_cons (ps_set (i := 2) sc__law_value.nd rfl (Or.inl rfl) (G.pe_c c__law_value hr (by omega) rfl (pa_cons (pe_ix (G.ixT (K := K)) (pv 0) pe_int (fun _ _ => rfl)) (pa_cons (pv 1) pa_nil))))
    (pss_one (ps_ret (pe_op op_add (G.pe_c c__law_value hr (by omega) rfl (pa_cons (pe_ix (G.ixT (K := K)) (pv 0) pe_int (fun _ _ => rfl)) (pa_cons (pv 1) pa_nil))) (pe_ifExp (pt_cmpR op_eq (pe_ix (G.ixT (K := K)) (pv 0) pe_int (fun _ _ => rfl)) pe_str (nomark _)) (pv 2) (pe_un un_neg (pv 2)))))))), ?_⟩
      cases e with
      | num i =>
        obtain ⟨a, v1, rfl, hT, h1⟩ := un2 hv
        cases h1
        walk_at "r"
        exact k _ (by walk_at "fr")
      | fld s =>
        obtain ⟨a, v1, rfl, hT, h1⟩ := un2 hv
        cases h1
        walk_at "r"
        exact ⟨_, _, rfl, dget_s (by walk_at "hp") ok, k _ (by walk_at "fr")⟩
      | plus e1 e2 =>
        obtain ⟨a, v1, v2, rfl, hT, h1, h2⟩ := un3 hv
        simp only [Ex.depth] at hd
        walk_at "r"
        refine go ⟨_, _, kvs, ρ, e2, rfl, by omega, by walk_at "da", by walk_at "hp", ok.2, fun H1 F1 => ?_⟩
        walk_at "r"
        refine go ⟨_, _, kvs, ρ, e1, rfl, by omega, by walk_at "da", by walk_at "hp", ok.1, fun H2 F2 => ?_⟩
        walk_at "r"
        exact k _ (by walk_at "fr")
      | minus e1 e2 =>
        obtain ⟨a, v1, v2, rfl, hT, h1, h2⟩ := un3 hv
        simp only [Ex.depth] at hd
        walk_at "r"
        refine go ⟨_, _, kvs, ρ, e2, rfl, by omega, by walk_at "da", by walk_at "hp", ok.2, fun H1 F1 => ?_⟩
        walk_at "r"
        refine go ⟨_, _, kvs, ρ, e1, rfl, by omega, by walk_at "da", by walk_at "hp", ok.1, fun H2 F2 => ?_⟩
        walk_at "r"
        exact q_int (k _ (by walk_at "fr")) (by show _ = e1.val ρ - e2.val ρ; omega)
theorem ok_law_holds (T : Top K mg) : ∀ n, Cal P w K mg base (n + 2) "_law_holds" (spHolds K n)
  | 0 => by
    refine cal T.d__law_holds sc__law_holds (fun vs H Q E h => ?_) (fun f cdv A outer s H vs Q E hr h => ?_)
    · obtain ⟨v, p, kvs, ρ, e, rfl, _⟩ := h
      rfl
    · obtain ⟨v, p, kvs, ρ, e, rfl, hd, _⟩ := h
      cases e <;> simp [Cd.depth] at hd
  | n + 1 => by
    have c__law_holds := ok_law_holds T n
    have c__law_value : Cal P w K mg base (n + 1) "_law_value" (spVal K n) := ok_law_value T n
    refine cal T.d__law_holds sc__law_holds (fun vs H Q E h => ?_) (fun f cdv A outer s H vs Q E hr h => ?_)
    · obtain ⟨v, p, kvs, ρ, e, rfl, _⟩ := h
      rfl
    · obtain ⟨v, p, kvs, ρ, e, rfl, hd, hv, hp, ok, k⟩ := h
      refine ⟨_, (pss_cons (ps_if (pt_cmpR (G.inQ (K := K)) (pe_ix (G.ixT (K := K)) (pv 0) pe_int (fun _ _ => rfl)) (pe_tup (pa_cons pe_str (pa_cons pe_str pa_nil))) (by rfl))
      (pss_one (ps_ret (pe_cmpR op_eq (pe_ix (G.ixT (K := K)) (pv 0) pe_int (fun _ _ => rfl)) pe_str (nomark _))))
      pss_nil)
    (pss_cons (ps_if (pt_cmpR op_eq (pe_ix (G.ixT (K := K)) (pv 0) pe_int (fun _ _ => rfl)) pe_str (nomark _))
      (pss_one (ps_ret (pe_not (G.pe_c c__law_holds hr (by omega) rfl (pa_cons (pe_ix (G.ixT (K := K)) (pv 0) pe_int (fun _ _ => rfl)) (pa_cons (pv 1) pa_nil))))))
      pss_nil)
    (pss_cons (ps_if (pt_cmpR op_eq (pe_ix (G.ixT (K := K)) (pv 0) pe_int (fun _ _ => rfl)) pe_str (nomark _))
      (pss_one (ps_ret (pe_and (G.pe_c c__law_holds hr (by omega) rfl (pa_cons (pe_ix (G.ixT (K := K)) (pv 0) pe_int (fun _ _ => rfl)) (pa_cons (pv 1) pa_nil))) (pe_one (G.pe_c c__law_holds hr (by omega) rfl (pa_cons (pe_ix (G.ixT (K := K)) (pv 0) pe_int (fun _ _ => rfl)) (pa_cons (pv 1) pa_nil)))))))
      pss_nil)
    (pss_cons (ps_if (pt_cmpR op_eq (pe_ix (G.ixT (K := K)) (pv 0) pe_int (fun _ _ => rfl)) pe_str (nomark _))
      (pss_one (ps_ret (pe_or (G.pe_c c__law_holds hr (by omega) rfl (pa_cons (pe_ix (G.ixT (K := K)) (pv 0) pe_int (fun _ _ => rfl)) (pa_cons (pv 1) pa_nil))) (pe_one (G.pe_c c__law_holds hr (by omega) rfl (pa_cons (pe_ix (G.ixT (K := K)) (pv 0) pe_int (fun _ _ => rfl)) (pa_cons (pv 1) pa_nil)))))))
      pss_nil)
    (pss_cons (ps_set (i := 2) sc__law_holds.nd rfl (Or.inl rfl) (pe_op op_sub (G.pe_c c__law_value hr (by omega) rfl (pa_cons (pe_ix (G.ixT (K := K)) (pv 0) pe_int (fun _ _ => rfl)) (pa_cons (pv 1) pa_nil))) (G.pe_c c__law_value hr (by omega) rfl (pa_cons (pe_ix (G.ixT (K := K)) (pv 0) pe_int (fun _ _ => rfl)) (pa_cons (pv 1) pa_nil)))))
    (pss_cons (ps_if (pt_cmpR (G.inQ (K := K)) (pe_ix (G.ixT (K := K)) (pv 0) pe_int (fun _ _ => rfl)) (pe_tup (pa_cons pe_str (pa_cons pe_str pa_nil))) (by rfl))
      (pss_one (ps_ret (pe_cmpR op_eq (pe_cmpR op_eq (pv 2) pe_int (nomark _)) (pe_cmpR op_eq (pe_ix (G.ixT (K := K)) (pv 0) pe_int (fun _ _ => rfl)) pe_str (nomark _)) (nomark _))))
      pss_nil)
    (pss_cons (ps_if (pt_cmpR (G.inQ (K := K)) (pe_ix (G.ixT (K := K)) (pv 0) pe_int (fun _ _ => rfl)) (pe_tup (pa_cons pe_str (pa_cons pe_str pa_nil))) (by rfl))
      (pss_one (ps_ret (pe_cmpR op_eq (pe_cmpR op_lt (pv 2) pe_int (nomark _)) (pe_cmpR op_eq (pe_ix (G.ixT (K := K)) (pv 0) pe_int (fun _ _ => rfl)) pe_str (nomark _)) (nomark _))))
      pss_nil)
    (pss_one (ps_ret (pe_cmpR op_eq (pe_cmpR op_le (pv 2) pe_int (nomark _)) (pe_cmpR op_eq (pe_ix (G.ixT (K := K)) (pv 0) pe_int (fun _ _ => rfl)) pe_str (nomark _)) (nomark _))))))))))), ?_⟩
      cases e with
      | yes =>
        obtain ⟨a, rfl, hT⟩ := un1 hv
        walk_at "r"
        exact q_bl (k _ (by walk_at "fr")) (by show _ = true; decide +kernel)
      | no =>
        obtain ⟨a, rfl, hT⟩ := un1 hv
        walk_at "r"
        exact q_bl (k _ (by walk_at "fr")) (by show _ = false; decide +kernel)
      | test g e1 e2 =>
        obtain ⟨a, v1, v2, v3, rfl, hT, h1, h2, h3⟩ := un4 hv
        cases h1
        simp only [Cd.depth] at hd
        cases g <;> unfold Sg.s at hT <;> (
          walk_at "r"
          refine go ⟨_, _, kvs, ρ, e1, rfl, by omega, by walk_at "da", by walk_at "hp", ok.1, fun H1 F1 => ?_⟩
          walk_at "r"
          refine go ⟨_, _, kvs, ρ, e2, rfl, by omega, by walk_at "da", by walk_at "hp", ok.2, fun H2 F2 => ?_⟩
          walk_at "r"
          refine q_bl (k _ (by walk_at "fr")) ?_)
        · exact (bb_yes (by decide +kernel)).trans (decide_eq_decide.mpr (by rw [int_is]; show e1.val ρ - e2.val ρ = 0 ↔ e1.val ρ = e2.val ρ; omega))
        · refine (bb_no (by decide +kernel)).trans ?_
          show (!decide _) = !decide _
          exact congrArg Bool.not (decide_eq_decide.mpr (by rw [int_is]; show e1.val ρ - e2.val ρ = 0 ↔ e1.val ρ = e2.val ρ; omega))
        · exact (bb_yes (by decide +kernel)).trans (decide_eq_decide.mpr (by show e1.val ρ - e2.val ρ < 0 ↔ e1.val ρ < e2.val ρ; omega))
        · exact (bb_yes (by decide +kernel)).trans (decide_eq_decide.mpr (by show e1.val ρ - e2.val ρ ≤ 0 ↔ e1.val ρ ≤ e2.val ρ; omega))
        · refine (bb_no (by decide +kernel)).trans ?_
          rw [← decide_not]
          exact decide_eq_decide.mpr (by show ¬ e1.val ρ - e2.val ρ ≤ 0 ↔ e2.val ρ < e1.val ρ; omega)
        · refine (bb_no (by decide +kernel)).trans ?_
          rw [← decide_not]
          exact decide_eq_decide.mpr (by show ¬ e1.val ρ - e2.val ρ < 0 ↔ e2.val ρ ≤ e1.val ρ; omega)
      | not e1 =>
        obtain ⟨a, v1, rfl, hT, h1⟩ := un2 hv
        simp only [Cd.depth] at hd
        walk_at "r"
        refine go ⟨_, _, kvs, ρ, e1, rfl, by omega, by walk_at "da", by walk_at "hp", ok, fun H1 F1 => ?_⟩
        walk_at "r"
        exact k _ (by walk_at "fr")
      | and e1 e2 =>
        obtain ⟨a, v1, v2, rfl, hT, h1, h2⟩ := un3 hv
        simp only [Cd.depth] at hd
        walk_at "r"
        refine go ⟨_, _, kvs, ρ, e1, rfl, by omega, by walk_at "da", by walk_at "hp", ok.1, fun H1 F1 => ?_⟩
        refine ⟨_, rfl, ifb_both (fun e => ?_) (fun e => ?_)⟩
        · walk_at "r"
          refine go ⟨_, _, kvs, ρ, e2, rfl, by omega, by walk_at "da", by walk_at "hp", ok.2, fun H2 F2 => ?_⟩
          exact q_bl (k _ (by walk_at "fr")) (by simp [Cd.val, e])
        · exact q_bl (k _ (by walk_at "fr")) (by simp [Cd.val, e])
      | or e1 e2 =>
        obtain ⟨a, v1, v2, rfl, hT, h1, h2⟩ := un3 hv
        simp only [Cd.depth] at hd
        walk_at "r"
        refine go ⟨_, _, kvs, ρ, e1, rfl, by omega, by walk_at "da", by walk_at "hp", ok.1, fun H1 F1 => ?_⟩
        refine ⟨_, rfl, ifb_both (fun e => ?_) (fun e => ?_)⟩
        · exact q_bl (k _ (by walk_at "fr")) (by simp [Cd.val, e])
        · walk_at "r"
          refine go ⟨_, _, kvs, ρ, e2, rfl, by omega, by walk_at "da", by walk_at "hp", ok.2, fun H2 F2 => ?_⟩
          exact q_bl (k _ (by walk_at "fr")) (by simp [Cd.val, e])
end

/-- what the draws are made of: d's cells, the script's numbers at sc -/
structure Dr (H : Hp) (d sc : Addr) : Prop where
  ne : sc ≠ d
  ex : ∃ (ns : List Int) (p f s z : Int), H sc = some (.lst (ns.map V.int)) ∧ H d = some (.lst [.ref sc, .int p, .int f, .int s, .int z]) ∧ 0 ≤ p ∧ 0 ≤ f ∧ 0 ≤ s ∧ s < 2147483647 ∧ ns.length ≤ 63
theorem Dr.f {H H' : Hp} {S : List Addr} {d sc : Addr} (h : Dr H d sc) (F : Fr S H H') (n1 : d ∉ S) (n2 : sc ∉ S) : Dr H' d sc := by
  obtain ⟨ne, ns, p, f, s, z, h1, h2, r⟩ := h
  exact ⟨ne, ns, p, f, s, z, F.md _ _ h1 n2, F.md _ _ h2 n1, r⟩
theorem Dr.new {H : Hp} {d sc L : Addr} {o : HO} (h : Dr H d sc) (hL : H L = none) : Dr (upd H L o) d sc := h.f (Fr.new (S := []) hL) (by simp) (by simp)
/-- a fresh address is neither -/
theorem Dr.ne_d {H : Hp} {d sc L : Addr} (h : Dr H d sc) (hL : H L = none) : L ≠ d := by
  obtain ⟨_, ns, p, f, s, z, _, h2, _⟩ := h
  exact fun e => by rw [e, h2] at hL; cases hL
theorem Dr.ne_sc {H : Hp} {d sc L : Addr} (h : Dr H d sc) (hL : H L = none) : L ≠ sc := by
  obtain ⟨_, ns, p, f, s, z, h2, _⟩ := h
  exact fun e => by rw [e, h2] at hL; cases hL
/-- a list beside is written -/
theorem Dr.put {H : Hp} {d sc L : Addr} {o : HO} (h : Dr H d sc) (n1 : L ≠ d) (n2 : L ≠ sc) : Dr (upd H L o) d sc := by
  obtain ⟨ne, ns, p, f, s, z, h1, h2, r⟩ := h
  exact ⟨ne, ns, p, f, s, z, by rw [upd_ne n2.symm]; exact h1, by rw [upd_ne n1.symm]; exact h2, r⟩
section
variable {P : Program} {w : World} {K : PySem.W.Frag} {mg : Str → Option Value} {base : Heap}
theorem cut_int (ns : List Int) (lo hi : Option Int) : ∃ ms : List Int, cutV (ns.map V.int) lo hi = ms.map V.int ∧ ms.length ≤ ns.length := by
  unfold cutV
  rw [← List.map_drop, ← List.map_take]
  refine ⟨_, rfl, ?_⟩
  rw [List.length_take, List.length_drop]
  omega
theorem map_int {ns : List Int} {i : Nat} {x : V} (h : (ns.map V.int)[i]? = some x) : ∃ n, x = .int n := by
  rw [List.getElem?_map] at h
  cases e : ns[i]? with
  | none => rw [e] at h; cases h
  | some n => rw [e] at h; exact ⟨n, (Option.some.inj h).symm⟩
theorem at_int {ns : List Int} {i : Int} (h0 : 0 ≤ i) (h1 : i < (ns.length : Int)) : ∃ c, atI (ns.map V.int) i = some (.int c) := by
  have e : i = ((i.toNat : Nat) : Int) := by omega
  have hl : i.toNat < ns.length := by omega
  rw [e]
  exact ⟨ns[i.toNat], atI_nat (by rw [List.getElem?_map, List.getElem?_eq_getElem hl]; rfl)⟩
def spBegin (K : PySem.W.Frag) : Sp := fun vs H Q _ => ∃ (a : Addr) (ns : List Int), vs = [.ref a] ∧ SqL K H a (ns.map V.int) ∧ ns.length ≤ 63 ∧
  ∀ d sc H', H d = none → H sc = none → Fr [] H H' → Dr H' d sc → Q (.ref d) H'
theorem ok_law_begin (T : Top K mg) : Cal P w K mg base 1 "_law_begin" (spBegin K) := by
  refine cal T.d__law_begin sc__law_begin (fun vs H Q E h => ?_) (fun f cdv A outer s H vs Q E hr h => ?_)
  · obtain ⟨a, ns, rfl, _⟩ := h
    rfl
  · obtain ⟨a, ns, rfl, hS, hl, k⟩ := h
    refine ⟨_, (pss_one (ps_ret (pe_lst (pa_cons (pe_slice (G.slL (K := K)) (pe_lc (own := [("cell", 1)]) rfl sc__law_begin.nd (G.piL (K := K) (pv 0)) (blkOk_by (N := N__law_begin) (sc := defScope s__law_begin) (by decide +kernel)) (fun _ _ _ _ _ => (pg_name (i := 1) sc__law_begin.nd rfl (Or.inl rfl))) (fun _ _ _ _ _ => pts_nil) (fun _ _ _ _ _ => (pe_callTy call_int1 (by rfl) T.b_int (by decide +kernel) (pa_cons (pv 1) pa_nil)))) po_none (po_some pe_int)) (pa_cons pe_int (pa_cons pe_int (pa_cons pe_int (pa_cons pe_int pa_nil)))))))), ?_⟩
    refine ⟨_, rfl, a, rfl, ⟨_, hS⟩, fun D hD => lc_list (K := K) (a := a) (xs := ns.map V.int) (fun i H' => ∃ ms : List Int, H' D = some (.lst (ms.map V.int)) ∧ ms.length ≤ i ∧ Fr [] H H')
      ⟨[], upd_same, Nat.le_refl _, Fr.new hD⟩ (fun i H' _ ⟨_, _, _, F⟩ => F.sqL hS (by simp)) ?_ ?_⟩
    · rintro i x H1 hx ⟨ms, h1, h2, F1⟩
      obtain ⟨n, rfl⟩ := map_int hx
      have hi : i < ns.length := by
        have q := (List.getElem?_eq_some_iff.mp hx).1
        rwa [List.length_map] at q
      refine ⟨rfl, ?_⟩
      refine lc_yes ?_
      refine ⟨_, rfl, .inl ⟨n, rfl, _, h1, ?_, ms ++ [n], ?_, ?_, ?_⟩⟩
      · rw [List.length_map]; show ms.length < 2 ^ 24; omega
      · rw [upd_same]; simp
      · simp; omega
      · refine ⟨fun b o e _ => ?_, fun b xs e => ?_⟩
        · rw [upd_ne (ne_of_none e hD)]; exact F1.md _ _ e (by simp)
        · exact (Fr.putL (S := [D]) (by simp) h1).kp _ _ (F1.kp _ _ e)
    · rintro H1 ⟨ms, h1, h2, F1⟩
      rw [List.length_map] at h2
      refine ⟨_, rfl, D, _, rfl, SqL.of h1, fun sc hsc => ?_⟩
      obtain ⟨cs, hcs, hcl⟩ := cut_int ms none (some 63)
      refine ⟨sz100 rfl, fun d hd => ?_⟩
      have ne : sc ≠ d := ne_of_none upd_same hd
      have F2 := F1.trans (Fr.new (o := .lst (cutV (ms.map V.int) none (some 63))) hsc)
      refine k d sc _ (F2.fresh hd (by simp)) (F1.fresh hsc (by simp)) (F2.trans (Fr.new hd)) ⟨ne, cs, 0, 0, 7, 0, by rw [upd_ne ne, upd_same, hcs], upd_same, ?_⟩
      refine ⟨?_, ?_, ?_, ?_, ?_⟩ <;> omega
def spDraw : Sp := fun vs H Q _ => ∃ (d sc : Addr) (n : Int), vs = [.ref d, .int n] ∧ Dr H d sc ∧ 0 < n ∧ n < 2 ^ 64 ∧ ∀ r H', 0 ≤ r → r < n → Fr [d] H H' → Dr H' d sc → Q (.int r) H'
theorem ok_law_draw (T : Top K mg) : Cal P w K mg base 1 "_law_draw" spDraw := by
  refine cal T.d__law_draw sc__law_draw (fun vs H Q E h => ?_) (fun f cdv A outer s H vs Q E hr h => ?_)
  · obtain ⟨d, sc, n, rfl, _⟩ := h
    rfl
  · obtain ⟨d, sc, n, rfl, ⟨ne, ns, p, fo, sd, z, hsc, hd, p0, f0, s0, s1, nl⟩, n0, n1, k⟩ := h
    refine ⟨_, (pss_cons (ps_set (i := 2) sc__law_draw.nd rfl (Or.inl rfl) (pe_ix (G.ixL (K := K)) (pv 0) pe_int (fun _ _ => rfl)))
    (C8.pss_cut (ps_if (pt_cmpR op_eq (pv 2) pe_int (nomark _))
      (pss_cons (ps_set (i := 3) sc__law_draw.nd rfl (Or.inl rfl) pe_int)
    (C8.pss_cut (ps_if (pt_cmpR op_lt (pe_ix (G.ixL (K := K)) (pv 0) pe_int (fun _ _ => rfl)) (pe_callB (G.lenA (K := K)) (by rfl) T.b_len (by decide +kernel) (pa_cons (pe_ix (G.ixL (K := K)) (pv 0) pe_int (fun _ _ => rfl)) pa_nil)) (nomark _))
      (pss_one (ps_set (i := 3) sc__law_draw.nd rfl (Or.inl rfl) (pe_op op_add (pe_op op_mul pe_int (pe_callB call_abs (by rfl) T.b_abs (by decide +kernel) (pa_cons (pe_ix (G.ixL (K := K)) (pe_ix (G.ixL (K := K)) (pv 0) pe_int (fun _ _ => rfl)) (pe_ix (G.ixL (K := K)) (pv 0) pe_int (fun _ _ => rfl)) (fun _ _ => rfl)) pa_nil))) (pe_callTy call_int1 (by rfl) T.b_int (by decide +kernel) (pa_cons (pe_cmpR op_lt (pe_ix (G.ixL (K := K)) (pe_ix (G.ixL (K := K)) (pv 0) pe_int (fun _ _ => rfl)) (pe_ix (G.ixL (K := K)) (pv 0) pe_int (fun _ _ => rfl)) (fun _ _ => rfl)) pe_int (nomark _)) pa_nil)))))
      pss_nil)
    (pss_cons (ps_augS (pv 0) pe_int (G.getL (K := K)) pe_int ip_add set_list)
    (pss_cons (ps_if (pt_cmpR op_lt (pv 3) (pe_op op_mul pe_int (pe_op op_pow pe_int pe_int)) (nomark _))
      (pss_cons (ps_asg (pe_op op_mod (pe_callTy call_int1 (by rfl) T.b_int (by decide +kernel) (pa_cons (pe_op op_add (pe_op op_add (pe_op op_add (pe_op op_mul (pe_ix (G.ixL (K := K)) (pv 0) pe_int (fun _ _ => rfl)) pe_int) (pe_op op_mul (pe_op op_mod (pe_callTy call_int1 (by rfl) T.b_int (by decide +kernel) (pa_cons (pv 3) pa_nil)) pe_int) pe_int)) (pe_op op_mul (pe_ix (G.ixL (K := K)) (pv 0) pe_int (fun _ _ => rfl)) pe_int)) pe_int) pa_nil)) pe_int) (pg_sub (pv 0) pe_int set_list))
    (pss_one (ps_ret (pe_op op_mod (pe_callTy call_int1 (by rfl) T.b_int (by decide +kernel) (pa_cons (pe_op op_fdivW (pe_ix (G.ixL (K := K)) (pv 0) pe_int (fun _ _ => rfl)) pe_int) pa_nil)) (pv 1)))))
      pss_nil)
    (pss_one (ps_set (i := 2) sc__law_draw.nd rfl (Or.inl rfl) (pe_op op_mod (pe_callTy call_int1 (by rfl) T.b_int (by decide +kernel) (pa_cons (pe_op op_fdivW (pv 3) pe_int) pa_nil)) (pe_op op_shl pe_int pe_int))))))))
      pss_nil)
    (pss_cons (ps_asg (pe_op op_fdivW (pv 2) (pv 1)) (pg_sub (pv 0) pe_int set_list))
    (pss_one (ps_ret (pe_op op_mod (pe_callTy call_int1 (by rfl) T.b_int (by decide +kernel) (pa_cons (pv 2) pa_nil)) (pv 1))))))), ?_⟩
    walk_at "r"
    refine ⟨fun σ H' => ∃ (p' f' g' s' : Int) (v : Option V), σ = [some (.ref d), some (.int n), some (.int f'), v] ∧ H' sc = some (.lst (ns.map V.int)) ∧ H' d = some (.lst [.ref sc, .int p', .int g', .int s', .int z]) ∧
      Fr [d] H H' ∧ 0 ≤ p' ∧ 0 ≤ f' ∧ 0 ≤ s' ∧ s' < 2147483647, ?_, ?_⟩
    · walk_at "r"
      refine if_both (fun e => ?_) (fun e => ?_)
      · walk_at "r"
        refine ⟨fun σ H' => ∃ x : Int, 0 ≤ x ∧ σ = [some (.ref d), some (.int n), some (.int fo), some (.int x)] ∧ H' = H, ?_, ?_⟩
        · walk_at "r"
          refine if_both (fun e2 => ?_) (fun e2 => ?_)
          · walk_at "r"
            obtain ⟨c, hc⟩ := at_int p0 (by rwa [List.length_map] at e2)
            refine ⟨_, _, _, _, rfl, rfl, SqL.of hsc, hc, ?_⟩
            walk_at "r"
            refine ⟨_, _, _, _, rfl, rfl, SqL.of hsc, hc, ?_⟩
            walk_at "r"
            refine ⟨_, ?_, rfl, rfl⟩
            show 0 ≤ 2 * (if c < 0 then -c else c) + (if decide (c < 0) = true then 1 else 0)
            split <;> split <;> omega
          · exact ⟨0, by omega, rfl, rfl⟩
        · rintro σ H' ⟨x, x0, rfl, rfl⟩
          walk_at "r"
          refine ⟨_, _, _, _, rfl, rfl, by omega, SqL.of hd, rfl, ?_⟩
          walk_at "r"
          have F1 : Fr [d] H' (upd H' d (.lst [.ref sc, .int (p + 1), .int fo, .int sd, .int z])) := Fr.putL (by simp) hd
          have hd1 : upd H' d (.lst [.ref sc, .int (p + 1), .int fo, .int sd, .int z]) d = some (.lst [.ref sc, .int (p + 1), .int fo, .int sd, .int z]) := upd_same
          have hs1 : upd H' d (.lst [.ref sc, .int (p + 1), .int fo, .int sd, .int z]) sc = some (.lst (ns.map V.int)) := by rw [upd_ne ne]; exact hsc
          refine if_both (fun e2 => ?_) (fun e2 => ?_)
          · walk_at "r"
            refine ⟨_, _, _, _, rfl, rfl, SqL.of upd_same, rfl, ?_⟩
            walk_at "r"
            refine k _ _ (Int.emod_nonneg _ (by omega)) (Int.emod_lt_of_pos _ n0) (F1.trans (Fr.putL (by simp) hd1)) ⟨ne, ns, p + 1, fo, _, z, by rw [upd_ne ne]; exact hs1, upd_same, by omega, f0, Int.emod_nonneg _ (by omega), Int.emod_lt_of_pos _ (by omega), nl⟩
          · walk_at "r"
            have pw : (0 : Int) < 1 * 2 ^ Int.toNat 4000 := by rw [Int.one_mul]; exact Int.pow_pos (by decide)
            refine ⟨p + 1, _, fo, sd, _, rfl, hs1, hd1, F1, by omega, Int.emod_nonneg _ (Int.ne_of_gt pw), s0, s1⟩
      · exact ⟨p, fo, fo, sd, none, rfl, hsc, hd, Fr.refl _, p0, f0, s0, s1⟩
    · rintro σ H' ⟨p', f', g', s', v, rfl, gsc, gd, F, g0, g1, g2, g3⟩
      walk_at "r"
      exact k _ _ (Int.emod_nonneg _ (by omega)) (Int.emod_lt_of_pos _ n0) (F.trans (Fr.putL (by simp) gd)) ⟨ne, ns, p', f' / n, s', z, by rw [upd_ne ne]; exact gsc, upd_same, g0, Int.ediv_nonneg g1 (by omega), g2, g3, nl⟩
end

/-- what a row has: the items of a list, of a tuple, the signs of a text -/
def RowV (K : PySem.W.Frag) (H : Hp) (x : V) (items : List V) : Prop := match x with
  | .ref a => SqL K H a items ∨ SqT K H a items
  | .str z => z.length ≤ sizeLine ∧ items = z.cps.toList.map fun c => .str ⟨#[c]⟩
  | _ => False
section
variable {P : Program} {w : World} {K : PySem.W.Frag} {mg : Str → Option Value} {base : Heap}
theorem RowV.len {H : Hp} {x : V} {items : List V} (h : RowV K H x items) : LenV K x H items.length := by
  cases x with
  | ref a =>
    rcases h with h | h
    · exact Or.inl ⟨_, h, rfl⟩
    · exact Or.inr ⟨_, h, rfl⟩
  | str z =>
    obtain ⟨h1, h2⟩ := h
    refine ⟨h1, ?_⟩
    rw [h2]; simp [Str.length]
  | _ => exact h.elim
theorem RowV.f {H H' : Hp} {S : List Addr} {x : V} {items : List V} (h : RowV K H x items) (F : Fr S H H') (n : ∀ a, x = .ref a → a ∉ S) : RowV K H' x items := by
  cases x with
  | ref a =>
    rcases h with h | h
    · exact Or.inl (F.sqL h (n a rfl))
    · exact Or.inr (F.sqT h)
  | str z => exact h
  | _ => exact h.elim
theorem RowV.ix {H : Hp} {x : V} {items : List V} {i : Int} {Q : VK} (h : RowV K H x items) (h0 : 0 ≤ i) (h1 : i < (items.length : Int)) (q : ∀ v, v ∈ items → Q v H) : rIx K x (.int i) H Q := by
  have e : i = ((i.toNat : Nat) : Int) := by omega
  have hl : i.toNat < items.length := by omega
  cases x with
  | ref a =>
    have hat : atI items i = some items[i.toNat] := at_get h0 hl
    have qq := q _ (List.getElem_mem hl)
    rcases h with h | h
    · exact Or.inl ⟨a, items, i, _, rfl, rfl, h, hat, qq⟩
    · exact Or.inr (Or.inl ⟨a, items, i, _, rfl, rfl, h, hat, qq⟩)
  | str z =>
    obtain ⟨h2, h3⟩ := h
    subst h3
    rw [List.length_map] at hl
    refine Or.inr (Or.inr ⟨z, i, z.cps.toList[i.toNat], rfl, rfl, h2, ?_, q _ ?_⟩)
    · exact at_get h0 hl
    · exact List.mem_map.mpr ⟨_, List.getElem_mem hl, rfl⟩
  | _ => exact h.elim
def spPick (K : PySem.W.Frag) : Sp := fun vs H Q _ => ∃ (d sc : Addr) (row : V) (items : List V), vs = [.ref d, row] ∧ Dr H d sc ∧ RowV K H row items ∧ 0 < items.length ∧ items.length < 2 ^ 60 ∧ row ≠ .ref d ∧
  ∀ v H', v ∈ items → Fr [d] H H' → Dr H' d sc → Q v H'
theorem ok_law_pick (T : Top K mg) : Cal P w K mg base 2 "_law_pick" (spPick K) := by
  have c__law_draw : Cal P w K mg base 1 "_law_draw" spDraw := ok_law_draw T
  refine cal T.d__law_pick sc__law_pick (fun vs H Q E h => ?_) (fun f cdv A outer s H vs Q E hr h => ?_)
  · obtain ⟨d, sc, row, items, rfl, _⟩ := h
    rfl
  · obtain ⟨d, sc, row, items, rfl, hD, hR, h0, h1, hne, k⟩ := h
    refine ⟨_, (pss_one (ps_ret (pe_ix (G.ixQ (K := K)) (pv 1) (G.pe_c c__law_draw hr (by omega) rfl (pa_cons (pv 0) (pa_cons (pe_callB (G.lenA (K := K)) (by rfl) T.b_len (by decide +kernel) (pa_cons (pv 1) pa_nil)) pa_nil))) (fun _ _ => rfl)))), ?_⟩
    walk_at "r"
    refine ⟨_, _, rfl, hR.len, fun _ => ?_⟩
    refine go ⟨d, sc, _, rfl, hD, by omega, by omega, fun r H1 r0 r1 F1 D1 => ?_⟩
    exact (hR.f F1 (fun a e z => hne (by rw [e, List.mem_singleton.mp z]))).ix r0 r1 fun v hv => k v H1 hv F1 D1

/-! ### the two told things are the same, type by type -/
def D.isInt : D → Bool
  | .int _ => true
  | _ => false
def spIsInt (K : PySem.W.Frag) : Sp := fun vs H Q _ => ∃ (v : V) (d : D), vs = [v] ∧ Da K H v d ∧ Q (.bl (D.isInt d)) H
theorem ok_law_is_int (T : Top K mg) : Cal P w K mg base 1 "_law_is_int" (spIsInt K) := by
  refine cal T.d__law_is_int sc__law_is_int (fun vs H Q E h => ?_) (fun f cdv A outer s H vs Q E hr h => ?_)
  · obtain ⟨v, d, rfl, _⟩ := h
    rfl
  · obtain ⟨v, d, rfl, hd, k⟩ := h
    refine ⟨_, (pss_one (ps_ret (pe_and (pe_callB (G.isiA (K := K)) (by rfl) T.b_isinstance (by decide +kernel) (pa_cons (pv 0) (pa_cons (G.tyN (n := "int") (by rfl) T.b_int (by decide +kernel)) pa_nil))) (pe_one (pe_not (pe_callB (G.isiA (K := K)) (by rfl) T.b_isinstance (by decide +kernel) (pa_cons (pv 0) (pa_cons (G.tyN (n := "bool") (by rfl) T.b_bool (by decide +kernel)) pa_nil)))))))), ?_⟩
    cases hd <;> walk_at "r" <;> exact k
def spSame (K : PySem.W.Frag) (n : Nat) : Sp := fun vs H Q _ => ∃ (v u : V) (d e : D), vs = [v, u] ∧ Da K H v d ∧ Da K H u e ∧ e.depth ≤ n ∧ ∀ H', Fr [] H H' → Q (.bl (D.same d e)) H'
theorem ok_law_same (T : Top K mg) : ∀ n, Cal P w K mg base (n + 2) "_law_same" (spSame K n)
  | 0 => by
    refine cal T.d__law_same sc__law_same (fun vs H Q E h => ?_) (fun f cdv A outer s H vs Q E hr h => ?_)
    · obtain ⟨v, u, d, e, rfl, _⟩ := h
      rfl
    · obtain ⟨v, u, d, e, rfl, _, _, hd, _⟩ := h
      cases e <;> simp [D.depth] at hd
  | n + 1 => by
    have c__law_same := ok_law_same T n
    have c__law_is_int : Cal P w K mg base 1 "_law_is_int" (spIsInt K) := ok_law_is_int T
    refine cal T.d__law_same sc__law_same (fun vs H Q E h => ?_) (fun f cdv A outer s H vs Q E hr h => ?_)
    · obtain ⟨v, u, d, e, rfl, _⟩ := h
      rfl
    · obtain ⟨v, u, d, e, rfl, hd, he, hn, k⟩ := h
      refine ⟨_, (pss_cons (ps_if (pt_val (pe_callB (G.isiA (K := K)) (by rfl) T.b_isinstance (by decide +kernel) (pa_cons (pv 1) (pa_cons (G.tyN (n := "tuple") (by rfl) T.b_tuple (by decide +kernel)) pa_nil))))
      (pss_cons (ps_if (PW.pt (pw_or (pt_not (pt_val (pe_callB (G.isiA (K := K)) (by rfl) T.b_isinstance (by decide +kernel) (pa_cons (pv 0) (pa_cons (G.tyN (n := "tuple") (by rfl) T.b_tuple (by decide +kernel)) pa_nil))))) (pw_or1 (pt_cmpR op_ne (pe_callB (G.lenA (K := K)) (by rfl) T.b_len (by decide +kernel) (pa_cons (pv 0) pa_nil)) (pe_callB (G.lenA (K := K)) (by rfl) T.b_len (by decide +kernel) (pa_cons (pv 1) pa_nil)) (nomark _)))))
      (pss_one (ps_ret pe_bl))
      pss_nil)
    (pss_one (ps_ret (pe_cmpR op_eq (pe_callB (G.lenA (K := K)) (by rfl) T.b_len (by decide +kernel) (pa_cons (pe_lc (own := [("k", 2)]) rfl sc__law_same.nd (pi_range1 (by rfl) T.b_range (pa_cons (pe_callB (G.lenA (K := K)) (by rfl) T.b_len (by decide +kernel) (pa_cons (pv 1) pa_nil)) pa_nil)) (blkOk_by (N := N__law_same) (sc := defScope s__law_same) (by decide +kernel)) (fun _ _ _ _ _ => (pg_name (i := 2) sc__law_same.nd rfl (Or.inl rfl))) (fun _ _ _ _ _ => (pts_one (pt_not (pt_val (G.pe_c c__law_same hr (by omega) rfl (pa_cons (pe_ix (G.ixT (K := K)) (pv 0) (pv 2) (fun _ _ => rfl)) (pa_cons (pe_ix (G.ixT (K := K)) (pv 1) (pv 2) (fun _ _ => rfl)) pa_nil))))))) (fun _ _ _ _ _ => (pv 2))) pa_nil)) pe_int (nomark _)))))
      pss_nil)
    (pss_cons (ps_if (pt_cmpR op_isN (pv 1) pe_non (nomark _))
      (pss_one (ps_ret (pe_cmpR op_isN (pv 0) pe_non (nomark _))))
      pss_nil)
    (pss_cons (ps_if (pt_val (pe_callB (G.isiA (K := K)) (by rfl) T.b_isinstance (by decide +kernel) (pa_cons (pv 1) (pa_cons (G.tyN (n := "bool") (by rfl) T.b_bool (by decide +kernel)) pa_nil))))
      (pss_one (ps_ret (pe_and (pe_callB (G.isiA (K := K)) (by rfl) T.b_isinstance (by decide +kernel) (pa_cons (pv 0) (pa_cons (G.tyN (n := "bool") (by rfl) T.b_bool (by decide +kernel)) pa_nil))) (pe_one (pe_cmpR op_eq (pv 0) (pv 1) (nomark _))))))
      pss_nil)
    (pss_one (ps_ret (pe_and (pe_ifExp (pt_val (pe_callB (G.isiA (K := K)) (by rfl) T.b_isinstance (by decide +kernel) (pa_cons (pv 1) (pa_cons (G.tyN (n := "int") (by rfl) T.b_int (by decide +kernel)) pa_nil)))) (G.pe_c c__law_is_int hr (by omega) rfl (pa_cons (pv 0) pa_nil)) (pe_callB (G.isiA (K := K)) (by rfl) T.b_isinstance (by decide +kernel) (pa_cons (pv 0) (pa_cons (G.tyN (n := "str") (by rfl) T.b_str (by decide +kernel)) pa_nil)))) (pe_one (pe_cmpR op_eq (pv 0) (pv 1) (nomark _))))))))), ?_⟩
      cases he with
      | non => cases hd <;> walk_at "r" <;> exact q_bl (k _ (Fr.refl _)) (by simp [D.same])
      | bl b => cases hd <;> walk_at "r" <;> exact q_bl (k _ (Fr.refl _)) (by simp [D.same])
      | int b =>
        have hd' := hd
        cases hd <;> walk_at "r" <;> refine go ⟨_, _, rfl, hd', ?_⟩ <;> walk_at "r" <;> exact q_bl (k _ (Fr.refl _)) (by simp [D.same])
      | str b => cases hd <;> walk_at "r" <;> exact q_bl (k _ (Fr.refl _)) (by simp [D.same])
      | @tup a ys es hT hs =>
        cases hd with
        | @tup b xs ds gT gs =>
          walk_at "r"
          refine ifn_both (fun e => ?_) (fun e => ?_)
          · walk_at "r"
            refine q_bl (k _ (Fr.refl _)) ?_
            cases z : D.same (.tup ds) (.tup es) with
            | false => rfl
            | true =>
              have := D.eq_of z
              injection this with this
              subst this
              exact absurd (by rw [gs.len, hs.len]) e
          · have hl : xs.length = ys.length := by have := V.int.inj e; omega
            have hle : ds.length = es.length := by rw [← gs.len, ← hs.len, hl]
            walk_at "r"
            intro L hL
            refine lc_range (fun i H' => ∃ ms : List Int, H' L = some (.lst (ms.map V.int)) ∧ ms.length ≤ i ∧ Fr [] H H' ∧ (ms = [] ↔ ∀ j x y, j < i → ds[j]? = some x → es[j]? = some y → D.same x y = true))
              ⟨[], upd_same, Nat.le_refl _, Fr.new hL, by simp⟩ ?_ ?_
            · rintro i H1 hi ⟨ms, h1, h2, F1, h3⟩
              rw [Int.toNat_natCast] at hi
              have hi2 : i < xs.length := by omega
              have hy : ys[i]? = some ys[i] := List.getElem?_eq_getElem hi
              have hx : xs[i]? = some xs[i] := List.getElem?_eq_getElem hi2
              obtain ⟨ey, he1, he2⟩ := hs.get hy
              obtain ⟨dx, hd1, hd2⟩ := gs.get hx
              refine ⟨rfl, ?_⟩
              walk_at "r"
              refine ⟨_, _, _, _, rfl, rfl, F1.sqT gT, by rw [Int.zero_add]; exact atI_nat hx, ?_⟩
              walk_at "r"
              refine ⟨_, _, _, _, rfl, rfl, F1.sqT hT, by rw [Int.zero_add]; exact atI_nat hy, ?_⟩
              refine go ⟨_, _, dx, ey, rfl, hd2.f F1, he2.f F1, by have := D.depth_mem he1; simp only [D.depth] at hn; omega, fun H2 F2 => ?_⟩
              have step : ∀ (b : Bool), D.same dx ey = b → ((ms = [] ∧ b = true) ↔ ∀ j x y, j < i + 1 → ds[j]? = some x → es[j]? = some y → D.same x y = true) := by
                intro b hb
                rw [h3]
                constructor
                · rintro ⟨h, rfl⟩ j x y hj ex ey'
                  by_cases hji : j = i
                  · subst hji
                    rw [hd1] at ex; rw [he1] at ey'
                    cases ex; cases ey'
                    exact hb
                  · exact h j x y (by omega) ex ey'
                · intro h
                  exact ⟨fun j x y hj => h j x y (by omega), by rw [← hb]; exact h i dx ey (by omega) hd1 he1⟩
              walk_at "r"
              cases hb : D.same dx ey with
              | true => exact ⟨ms, F2.md _ _ h1 (by simp), by omega, F1.trans F2, by rw [← step true hb]; simp⟩
              | false =>
                refine ⟨_, rfl, _, F2.md _ _ h1 (by simp), ?_, ms ++ [0 + (i : Int)], by rw [upd_same]; simp, by simp; omega, (F1.trans F2).mut hL, by rw [← step false hb]; simp⟩
                rw [List.length_map]
                have : ys.length ≤ 16777216 := by assumption
                show ms.length < 16777216
                omega
            · rintro H1 ⟨ms, h1, h2, F1, h3⟩
              walk_at "r"
              refine q_bl (k _ F1) ?_
              show decide (V.int _ = V.int 0) = D.sames ds es
              rw [List.length_map]
              cases z : D.sames ds es with
              | true =>
                have : ms = [] := h3.mpr fun j x y _ ex ey => (D.sames_iff hle).mp z j x y ex ey
                rw [this]; rfl
              | false =>
                refine decide_eq_false fun q => ?_
                have q := V.int.inj q
                have hm : ms = [] := by
                  cases ms with
                  | nil => rfl
                  | cons _ _ => simp at q; omega
                rw [(D.sames_iff hle).mpr fun j x y ex ey => h3.mp hm j x y (by have := (List.getElem?_eq_some_iff.mp ey).1; have := hs.len; simp; omega) ex ey] at z
                cases z
        | _ => walk_at "r" <;> exact q_bl (k _ (Fr.refl _)) (by simp [D.same])
end

section
variable {P : Program} {w : World} {K : PySem.W.Frag} {mg : Str → Option Value} {base : Heap}
theorem mem_sign {z : Str} {v : V} (h : v ∈ z.cps.toList.map fun c => V.str ⟨#[c]⟩) : ∃ c, v = .str ⟨#[c]⟩ ∧ c ∈ z.cps.toList := by
  obtain ⟨c, h1, h2⟩ := List.mem_map.mp h
  exact ⟨c, h2.symm, h1⟩
theorem one_len (c : Nat) : (⟨#[c]⟩ : Str).length = 1 := rfl
def spReserved : Sp := fun vs H Q _ => ∃ (s : Str), vs = [.str s] ∧ s.length ≤ 1000 ∧ ∀ b, Q (.bl b) H
theorem ok_law_is_reserved (T : Top K mg) : Cal P w K mg base 1 "_law_is_reserved" spReserved := by
  refine cal T.d__law_is_reserved sc__law_is_reserved (fun vs H Q E h => ?_) (fun f cdv A outer s H vs Q E hr h => ?_)
  · obtain ⟨s, rfl, _⟩ := h
    rfl
  · obtain ⟨z, rfl, hz, k⟩ := h
    refine ⟨_, (pss_cons (ps_set (i := 1) sc__law_is_reserved.nd rfl (Or.inl rfl) pe_str)
    (pss_cons (ps_set (i := 1) sc__law_is_reserved.nd rfl (Or.inl rfl) (pe_op op_add_str (pv 1) pe_str))
    (pss_one (ps_ret (pe_cmpR op_in_str (pe_op op_add_str (pe_op op_add_str pe_str (pv 0)) pe_str) (pe_op op_add_str (pv 1) pe_str) (by rfl)))))), ?_⟩
    walk_at "r"
    refine And.intro (by decide +kernel) ?_
    walk_at "r"
    have e1 : (Str.ofString " ").length = 1 := rfl
    refine And.intro (by show _ ≤ 16777216; omega) ?_
    walk_at "r"
    refine And.intro (by rw [len_app]; show _ ≤ 16777216; omega) ?_
    walk_at "r"
    refine And.intro (by decide +kernel) ?_
    walk_at "r"
    exact k _
/-- a list of texts, none of them long -/
def Names (H : Hp) (u : Addr) (us : List Str) : Prop := H u = some (.lst (us.map V.str)) ∧ us.length ≤ 1000 ∧ ∀ s ∈ us, s.length ≤ 12
def spName : Sp := fun vs H Q _ => ∃ (d sc u : Addr) (us : List Str), vs = [.ref d, .ref u] ∧ Dr H d sc ∧ Names H u us ∧ us.length < 1000 ∧ u ≠ d ∧ u ≠ sc ∧
  ∀ s us' H', s.length ≤ 12 → Names H' u us' → us'.length ≤ us.length + 1 → Fr [d, u] H H' → Dr H' d sc → Q (.str s) H'
theorem ok_law_name (T : Top K mg) : Cal P w K mg base 3 "_law_name" spName := by
  have c__law_draw : Cal P w K mg base 1 "_law_draw" spDraw := ok_law_draw T
  have c__law_pick : Cal P w K mg base 2 "_law_pick" (spPick K) := ok_law_pick T
  have c__law_is_reserved : Cal P w K mg base 1 "_law_is_reserved" spReserved := ok_law_is_reserved T
  refine cal T.d__law_name sc__law_name (fun vs H Q E h => ?_) (fun f cdv A outer s H vs Q E hr h => ?_)
  · obtain ⟨d, sc, u, us, rfl, _⟩ := h
    rfl
  · obtain ⟨d, sc, u, us, rfl, hD, ⟨hu, hul, hus⟩, hlt, n1, n2, k⟩ := h
    refine ⟨_, (pss_cons (ps_set (i := 2) sc__law_name.nd rfl (Or.inr rfl) pe_str)
    (pss_cons (ps_set (i := 3) sc__law_name.nd rfl (Or.inl rfl) (pe_ix ix_str (pv 2) (G.pe_c c__law_draw hr (by omega) rfl (pa_cons (pv 0) (pa_cons pe_int pa_nil))) (fun _ _ => rfl)))
    (C8.pss_cut (ps_if (PW.pt (pw_and (pt_cmpR op_gt (pe_callB (G.lenA (K := K)) (by rfl) T.b_len (by decide +kernel) (pa_cons (pv 1) pa_nil)) pe_int (nomark _)) (pw_and1 (pt_cmpR op_eq (G.pe_c c__law_draw hr (by omega) rfl (pa_cons (pv 0) (pa_cons pe_int pa_nil))) pe_int (nomark _)))))
      (pss_one (ps_set (i := 3) sc__law_name.nd rfl (Or.inl rfl) (pe_op op_add_str (pe_slice sl_str (pe_op op_add_str (G.pe_c c__law_pick hr (by omega) rfl (pa_cons (pv 0) (pa_cons (pv 1) pa_nil))) pe_str) po_none (po_some pe_int)) (G.pe_c c__law_pick hr (by omega) rfl (pa_cons (pv 0) (pa_cons (pv 2) pa_nil))))))
      (pss_one (ps_set (i := 3) sc__law_name.nd rfl (Or.inl rfl) (pe_op op_add_str (pv 3) (G.bm (K := K) PySem.F.plainAttrs_str PySem.F.slot_str_join PySem.F.type_str_join (G.joinA (K := K)) pe_str (pa_cons (pe_lc (own := [("k", 4)]) rfl sc__law_name.nd (pi_range1 (by rfl) T.b_range (pa_cons (G.pe_c c__law_draw hr (by omega) rfl (pa_cons (pv 0) (pa_cons pe_int pa_nil))) pa_nil)) (blkOk_by (N := N__law_name) (sc := defScope s__law_name) (by decide +kernel)) (fun _ _ _ _ _ => (pg_name (i := 4) sc__law_name.nd rfl (Or.inl rfl))) (fun _ _ _ _ _ => pts_nil) (fun _ _ _ _ _ => (G.pe_c c__law_pick hr (by omega) rfl (pa_cons (pv 0) (pa_cons (pv 2) pa_nil))))) pa_nil))))))
    (pss_cons (ps_for PassesOwn.never rfl (pi_range1 (by rfl) T.b_range (pa_cons pe_int pa_nil)) (pg_name (i := 4) sc__law_name.nd rfl (Or.inl rfl))
      (pss_cons (ps_set (i := 5) sc__law_name.nd rfl (Or.inl rfl) (pe_ifExp (pt_cmpR op_eq (pv 4) pe_int (nomark _)) (pv 3) (pe_op op_add_str (pe_slice sl_str (pv 3) po_none (po_some pe_int)) (pe_callTy call_str_int (by rfl) T.b_str (by decide +kernel) (pa_cons (pv 4) pa_nil)))))
    (pss_one (ps_if (PW.pt (pw_and (pt_cmpR (G.ninQ (K := K)) (pv 5) (pv 1) (by rfl)) (pw_and1 (pt_not (pt_val (G.pe_c c__law_is_reserved hr (by omega) rfl (pa_cons (pv 5) pa_nil)))))))
      (pss_cons (ps_expr (G.bm (K := K) PySem.F.plainAttrs_list PySem.F.slot_list_append PySem.F.type_list_append mt_append (pv 1) (pa_cons (pv 5) pa_nil)))
    (pss_one (ps_ret (pv 5))))
      pss_nil))))
    (pss_one (ps_ret (pv 3))))))), ?_⟩
    walk_at "r"
    refine go ⟨d, sc, 26, rfl, hD, by omega, by omega, fun r H1 r0 r1 F1 D1 => ?_⟩
    refine ixS (by decide +kernel) r0 (by rw [show (Str.ofString "abcdefghijklmnopqrstuvwxyz0123456789").length = 36 by decide +kernel]; omega) fun c hc => ?_
    have hu1 := F1.md _ _ hu (by simp [n1])
    walk_at "r"
    refine ⟨fun σ H' => ∃ nm : Str, σ = [some (.ref d), some (.ref u), some (.str (Str.ofString "abcdefghijklmnopqrstuvwxyz0123456789")), some (.str nm), none, none] ∧ nm.length ≤ 12 ∧ Fr [d] H H' ∧ Dr H' d sc, ?_, ?_⟩
    · refine cps_if (fun b H' => Fr [d] H H' ∧ Dr H' d sc ∧ (b = true → 0 < us.length)) ?_ ?_ ?_
      · intro Q q
        walk_at "r"
        refine if_both (fun e => ?_) (fun e => ?_)
        · walk_at "r"
          refine go ⟨d, sc, 9, rfl, D1, by omega, by omega, fun r2 H2 _ _ F2 D2 => ?_⟩
          walk_at "r"
          refine q _ _ ⟨F1.trans F2, D2, fun _ => by simp at e; omega⟩
        · exact q _ _ ⟨F1, D1, fun z => by cases z⟩
      · rintro H2 ⟨F2, D2, ne⟩
        have hu2 := F2.md _ _ hu (by simp [n1])
        walk_at "r"
        refine go ⟨d, sc, .ref u, us.map V.str, rfl, D2, Or.inl (SqL.of hu2), by rw [List.length_map]; exact ne rfl, by rw [List.length_map]; omega, by intro q; exact n1 (by injection q), fun v H3 hv F3 D3 => ?_⟩
        obtain ⟨s1, rfl, hs1⟩ := mem_str hv
        have l1 := hus s1 hs1
        walk_at "r"
        refine And.intro (by rw [len_app]; show _ ≤ 16777216; have : (Str.ofString "zzzzzzzzzzz").length = 11 := rfl; omega) ?_
        walk_at "r"
        refine go ⟨d, sc, _, _, rfl, D3, ⟨by decide +kernel, rfl⟩, by rw [List.length_map]; decide +kernel, by rw [List.length_map]; decide +kernel, (by intro q; cases q), fun v H4 hv F4 D4 => ?_⟩
        obtain ⟨c4, rfl, _⟩ := mem_sign hv
        have l2 : (cutS (s1 ++ Str.ofString "zzzzzzzzzzz") none (some 11)).length ≤ 11 := cutS_len _ 11
        have l3 := one_len c4
        refine ⟨_, _, rfl, rfl, by show _ ≤ 16777216; omega, ?_⟩
        exact ⟨_, rfl, by rw [len_app]; omega, (F2.trans F3).trans F4, D4⟩
      · rintro H2 ⟨F2, D2, _⟩
        walk_at "r"
        refine go ⟨d, sc, 4, rfl, D2, by omega, by omega, fun r4 H3 r5 r6 F3 D3 => ?_⟩
        walk_at "r"
        intro L hL
        have nd := D3.ne_d hL
        have ns := D3.ne_sc hL
        refine lc_range (fun i H' => ∃ ts : List Str, H' L = some (.lst (ts.map V.str)) ∧ ts.length ≤ i ∧ (ts.map (·.length)).sum = ts.length ∧ Fr [d] H3 H' ∧ Dr H' d sc)
          ⟨[], upd_same, Nat.le_refl _, rfl, Fr.new hL, D3.new hL⟩ ?_ ?_
        · rintro i H4 hi ⟨ts, g1, g2, g3, F4, D4⟩
          refine ⟨rfl, ?_⟩
          walk_at "r"
          refine go ⟨d, sc, _, _, rfl, D4, ⟨by decide +kernel, rfl⟩, by rw [List.length_map]; decide +kernel, by rw [List.length_map]; decide +kernel, (by intro q; cases q), fun v H5 hv F5 D5 => ?_⟩
          obtain ⟨c5, rfl, _⟩ := mem_sign hv
          refine ⟨_, F5.md _ _ g1 (by simp [nd]), ?_, ts ++ [⟨#[c5]⟩], by rw [upd_same]; simp, by simp; omega, ?_, (F4.trans F5).mut hL, D5.put nd ns⟩
          · rw [List.length_map]; show _ < 16777216; omega
          · rw [List.map_append, List.sum_append, g3, List.length_append]; rfl
        · rintro H4 ⟨ts, g1, g2, g3, F4, D4⟩
          have lj := join_len0 ts
          have l3 := one_len c
          walk_at "r"
          refine ⟨_, L, ts, rfl, rfl, Or.inl (SqL.of g1), ?_, ?_⟩
          · show _ + ts.length * 0 ≤ 16777216
            omega
          refine ⟨_, _, rfl, rfl, by show _ ≤ 16777216; omega, ?_⟩
          exact ⟨_, rfl, by rw [len_app]; omega, F2.trans (F3.trans F4), D4⟩
    · rintro σ H2 ⟨nm, rfl, hnm, F2, D2⟩
      refine ⟨1000, rfl, by omega, by omega, for_range (fun i σ H' => ∃ v4 v5, σ = [some (.ref d), some (.ref u), some (.str (Str.ofString "abcdefghijklmnopqrstuvwxyz0123456789")), some (.str nm), v4, v5] ∧ Fr [d] H H' ∧ Dr H' d sc)
        ⟨none, none, rfl, F2, D2⟩ ?_ ?_⟩
      · rintro i σ H3 hi ⟨v4, v5, rfl, F3, D3⟩
        have hu3 := F3.md _ _ hu (by simp [n1])
        refine cps (te := tIf _ _ _) (fun v H' => H' = H3 ∧ ∃ sp : Str, v = .str sp ∧ sp.length ≤ 12) ?_ ?_
        · intro Q q
          walk_at "r"
          refine if_both (fun e => ?_) (fun e => ?_)
          · walk_at "r"
            exact q _ _ ⟨rfl, _, rfl, hnm⟩
          · have l9 : (cutS nm none (some 9)).length ≤ 9 := cutS_len _ 9
            have hi3 : i < 1000 := hi
            have l3 : (Str.ofString (toString (i : Int))).length ≤ 3 := str3 ⟨i, hi3⟩
            have e0 : (0 : Int) + (i : Int) = (i : Int) := Int.zero_add _
            walk_at "r"
            rw [e0]
            refine And.intro (Nat.lt_of_le_of_lt (Nat.log2_le_self _) (by rw [Int.natAbs_natCast]; omega)) ?_
            refine ⟨_, _, rfl, rfl, by show _ ≤ 16777216; omega, q _ _ ⟨rfl, _, rfl, by rw [len_app]; omega⟩⟩
        · rintro v H4 ⟨rfl, sp, rfl, hsp⟩
          walk_at "r"
          refine ⟨_, _, rfl, Or.inl (SqL.of hu3), rfl, flat_strs us, _, rfl, ?_⟩
          refine ifb_both (fun e => ?_) (fun e => ?_)
          · walk_at "r"
            refine go ⟨sp, rfl, by omega, fun b => ?_⟩
            walk_at "r"
            cases b with
            | true => exact ⟨_, _, rfl, F3, D3⟩
            | false =>
              refine ⟨_, rfl, Or.inl ⟨rfl, _, SqL.of hu3⟩, ?_⟩
              walk_at "r"
              refine ⟨_, _, _, rfl, rfl, hu3, by rw [List.length_map]; show _ < 16777216; omega, ?_⟩
              walk_at "r"
              refine k sp (us ++ [sp]) _ hsp ⟨by rw [upd_same]; simp, by simp; omega, fun s hs => ?_⟩ (by simp) ((F3.mono (by simp)).trans (Fr.putL (by simp) hu3)) (D3.put n1 n2)
              rcases List.mem_append.mp hs with h | h
              · exact hus s h
              · rw [List.mem_singleton.mp h]; exact hsp
          · exact ⟨_, _, rfl, F3, D3⟩
      · rintro σ H3 ⟨v4, v5, rfl, F3, D3⟩
        have hu3 := F3.md _ _ hu (by simp [n1])
        walk_at "r"
        exact k nm us H3 hnm ⟨hu3, hul, hus⟩ (by omega) (F3.mono (by simp)) D3
end

section
variable {P : Program} {w : World} {K : PySem.W.Frag} {mg : Str → Option Value} {base : Heap}
/-- the list of names at nl is only read -/
def Row (H : Hp) (nl d : Addr) (ns : List Str) : Prop := H nl = some (.lst (ns.map V.str)) ∧ nl ≠ d
theorem Row.f {H H' : Hp} {nl d : Addr} {ns : List Str} (h : Row H nl d ns) (F : Fr [d] H H') : Row H' nl d ns := ⟨F.md _ _ h.1 (by simp [h.2]), h.2⟩
def spGrowE (K : PySem.W.Frag) (n : Nat) : Sp := fun vs H Q _ => ∃ (d sc nl : Addr) (ns : List Str) (nodes deep : Int), vs = [.ref d, .ref nl, .int nodes, .int deep] ∧ Dr H d sc ∧ Row H nl d ns ∧ 1 ≤ n ∧ deep ≤ n ∧ nodes < 1000000 ∧
  ∀ v e H', Da K H' v (Ex.d e) → e.depth ≤ n → e.ok (· ∈ ns) → Fr [d] H H' → Dr H' d sc → Q v H'
theorem ok_law_grown_expr (T : Top K mg) : ∀ n, Cal P w K mg base (n + 3) "_law_grown_expr" (spGrowE K n)
  | 0 => by
    refine cal T.d__law_grown_expr sc__law_grown_expr (fun vs H Q E h => ?_) (fun f cdv A outer s H vs Q E hr h => ?_)
    · obtain ⟨d, sc, nl, ns, nodes, deep, rfl, _⟩ := h
      rfl
    · obtain ⟨d, sc, nl, ns, nodes, deep, rfl, _, _, h, _⟩ := h
      omega
  | n + 1 => by
    have c__law_grown_expr := ok_law_grown_expr T n
    have c__law_draw : Cal P w K mg base 1 "_law_draw" spDraw := ok_law_draw T
    have c__law_pick : Cal P w K mg base 2 "_law_pick" (spPick K) := ok_law_pick T
    refine cal T.d__law_grown_expr sc__law_grown_expr (fun vs H Q E h => ?_) (fun f cdv A outer s H vs Q E hr h => ?_)
    · obtain ⟨d, sc, nl, ns, nodes, deep, rfl, _⟩ := h
      rfl
    · obtain ⟨d, sc, nl, ns, nodes, deep, rfl, hD, hR, h1, hdeep, hnodes, k⟩ := h
      refine ⟨_, (pss_cons (ps_if (PW.pt (pw_or (pt_cmpR op_lt (pv 2) pe_int (nomark _)) (pw_or (pt_cmpR op_lt (pv 3) pe_int (nomark _)) (pw_or1 (pt_cmpR op_eq (G.pe_c c__law_draw hr (by omega) rfl (pa_cons (pv 0) (pa_cons pe_int pa_nil))) pe_int (nomark _))))))
      (pss_cons (ps_if (PW.pt (pw_and (pt_cmpR op_gt (pe_callB (G.lenA (K := K)) (by rfl) T.b_len (by decide +kernel) (pa_cons (pv 1) pa_nil)) pe_int (nomark _)) (pw_and1 (pt_cmpR op_gt (G.pe_c c__law_draw hr (by omega) rfl (pa_cons (pv 0) (pa_cons pe_int pa_nil))) pe_int (nomark _)))))
      (pss_one (ps_ret (pe_tup (pa_cons pe_str (pa_cons (G.pe_c c__law_pick hr (by omega) rfl (pa_cons (pv 0) (pa_cons (pv 1) pa_nil))) pa_nil)))))
      pss_nil)
    (pss_one (ps_ret (pe_tup (pa_cons pe_str (pa_cons (G.pe_c c__law_draw hr (by omega) rfl (pa_cons (pv 0) (pa_cons pe_int pa_nil))) pa_nil))))))
      pss_nil)
    (pss_cons (ps_set (i := 4) sc__law_grown_expr.nd rfl (Or.inl rfl) (G.pe_c c__law_pick hr (by omega) rfl (pa_cons (pv 0) (pa_cons (pe_lst (pa_cons pe_str (pa_cons pe_str (pa_cons pe_str pa_nil)))) pa_nil))))
    (pss_cons (ps_set (i := 5) sc__law_grown_expr.nd rfl (Or.inl rfl) (pe_op op_add pe_int (G.pe_c c__law_draw hr (by omega) rfl (pa_cons (pv 0) (pa_cons (pe_op op_sub (pv 2) pe_int) pa_nil)))))
    (pss_cons (ps_set (i := 6) sc__law_grown_expr.nd rfl (Or.inl rfl) (G.pe_c c__law_grown_expr hr (by omega) rfl (pa_cons (pv 0) (pa_cons (pv 1) (pa_cons (pv 5) (pa_cons (pe_op op_sub (pv 3) pe_int) pa_nil))))))
    (pss_one (ps_ret (pe_tup (pa_cons (pv 4) (pa_cons (pv 6) (pa_cons (G.pe_c c__law_grown_expr hr (by omega) rfl (pa_cons (pv 0) (pa_cons (pv 1) (pa_cons (pe_op op_sub (pe_op op_sub (pv 2) pe_int) (pv 5)) (pa_cons (pe_op op_sub (pv 3) pe_int) pa_nil))))) pa_nil)))))))))), ?_⟩
      refine cps_if (fun b H' => Fr [d] H H' ∧ Dr H' d sc ∧ (b = false → 3 ≤ nodes ∧ 2 ≤ deep)) ?_ ?_ ?_
      · intro Q q
        walk_at "r"
        refine if_both (fun e => q _ _ ⟨Fr.refl _, hD, fun z => by cases z⟩) (fun e1 => ?_)
        walk_at "r"
        refine if_both (fun e => q _ _ ⟨Fr.refl _, hD, fun z => by cases z⟩) (fun e2 => ?_)
        walk_at "r"
        refine go ⟨d, sc, 9, rfl, hD, by omega, by omega, fun r H1 _ _ F1 D1 => ?_⟩
        walk_at "r"
        exact q _ _ ⟨F1, D1, fun _ => ⟨by omega, by omega⟩⟩
      · rintro H1 ⟨F1, D1, _⟩
        have R1 := hR.f F1
        obtain ⟨hn1, hn2⟩ := id R1
        refine cps_if (fun b H' => Fr [d] H1 H' ∧ Dr H' d sc ∧ (b = true → 0 < ns.length ∧ ns.length ≤ sizeLine)) ?_ ?_ ?_
        · intro Q q
          walk_at "r"
          rename_i hlen
          refine if_both (fun e => ?_) (fun e1 => q _ _ ⟨Fr.refl _, D1, fun z => by cases z⟩)
          walk_at "r"
          refine go ⟨d, sc, 3, rfl, D1, by omega, by omega, fun r H1 _ _ F1 D1 => ?_⟩
          walk_at "r"
          exact q _ _ ⟨F1, D1, fun _ => ⟨by simp at e; omega, by simpa using hlen⟩⟩
        · rintro H2 ⟨F2, D2, ne⟩
          obtain ⟨ne1, ne2⟩ := ne rfl
          have R2 := R1.f F2
          walk_at "r"
          refine go ⟨d, sc, .ref nl, ns.map V.str, rfl, D2, Or.inl (SqL.of R2.1), by rw [List.length_map]; exact ne1, by rw [List.length_map]; exact lt60 ne2, by intro q; exact hn2 (by injection q), fun v H3 hv F3 D3 => ?_⟩
          obtain ⟨s1, rfl, hs1⟩ := mem_str hv
          walk_at "r"
          rename_i p hp
          exact k _ (.fld s1) _ (Da.new hp (.cons (.str _) (.cons (.str _) .nil))) (by simp [Ex.depth]) hs1 (((F1.trans F2).trans F3).trans (Fr.new hp)) (D3.new hp)
        · rintro H2 ⟨F2, D2, ne⟩
          walk_at "r"
          refine go ⟨d, sc, 10, rfl, D2, by omega, by omega, fun r H3 _ _ F3 D3 => ?_⟩
          walk_at "r"
          rename_i p hp
          exact k _ (.num r) _ (Da.new hp (.cons (.str _) (.cons (.int _) .nil))) (by simp [Ex.depth]) trivial (((F1.trans F2).trans F3).trans (Fr.new hp)) (D3.new hp)
      · rintro H1 ⟨F1, D1, ne⟩
        obtain ⟨b1, b2⟩ := ne rfl
        have R1 := hR.f F1
        walk_at "r"
        rename_i p hp
        have np := D1.ne_d hp
        refine go ⟨d, sc, .ref p, _, rfl, D1.new hp, Or.inl (SqL.of upd_same), by decide, by decide, by intro q; exact np (by injection q), fun v H2 hv F2 D2 => ?_⟩
        have F2 := (F1.trans (Fr.new hp)).trans F2
        have R2 := hR.f F2
        have hv2 : v = .str "plus" ∨ v = .str "minus" := by
          rcases List.mem_cons.mp hv with h | h
          · exact .inl h
          · rcases List.mem_cons.mp h with h | h
            · exact .inr h
            · exact .inr (List.mem_singleton.mp h)
        walk_at "r"
        refine go ⟨d, sc, nodes - 2, rfl, D2, by omega, by omega, fun many H3 m0 m1 F3 D3 => ?_⟩
        have F3 := F2.trans F3
        have R3 := hR.f F3
        walk_at "r"
        refine go ⟨d, sc, nl, ns, 1 + many, deep - 1, rfl, D3, R3, by omega, by omega, by omega, fun v1 e1 H4 a1 dp1 ok1 F4 D4 => ?_⟩
        have F4' := F3.trans F4
        have R4 := hR.f F4'
        walk_at "r"
        refine go ⟨d, sc, nl, ns, nodes - 1 - (1 + many), deep - 1, rfl, D4, R4, by omega, by omega, by omega, fun v2 e2 H5 a2 dp2 ok2 F5 D5 => ?_⟩
        walk_at "r"
        rename_i p5 hp5
        have F6 := (F4'.trans F5).trans (Fr.new (o := .tup [v, v1, v2]) hp5)
        rcases hv2 with rfl | rfl
        · exact k _ (.plus e1 e2) _ (Da.new hp5 (.cons (.str _) (.cons (a1.f F5) (.cons a2 .nil)))) (by simp only [Ex.depth]; omega) ⟨ok1, ok2⟩ F6 (D5.new hp5)
        · exact k _ (.minus e1 e2) _ (Da.new hp5 (.cons (.str _) (.cons (a1.f F5) (.cons a2 .nil)))) (by simp only [Ex.depth]; omega) ⟨ok1, ok2⟩ F6 (D5.new hp5)
def spGrowC (K : PySem.W.Frag) (n : Nat) : Sp := fun vs H Q _ => ∃ (d sc nl : Addr) (ns : List Str) (nodes deep : Int), vs = [.ref d, .ref nl, .int nodes, .int deep] ∧ Dr H d sc ∧ Row H nl d ns ∧ 1 ≤ n ∧ deep ≤ n ∧ nodes < 1000000 ∧
  ∀ v e H', Da K H' v (Cd.d e) → e.depth ≤ n → e.ok (· ∈ ns) → Fr [d] H H' → Dr H' d sc → Q v H'
theorem ok_law_grown_cond (T : Top K mg) : ∀ n, Cal P w K mg base (n + 4) "_law_grown_cond" (spGrowC K n)
  | 0 => by
    refine cal T.d__law_grown_cond sc__law_grown_cond (fun vs H Q E h => ?_) (fun f cdv A outer s H vs Q E hr h => ?_)
    · obtain ⟨d, sc, nl, ns, nodes, deep, rfl, _⟩ := h
      rfl
    · obtain ⟨d, sc, nl, ns, nodes, deep, rfl, _, _, h, _⟩ := h
      omega
  | n + 1 => by
    have c__law_grown_cond := ok_law_grown_cond T n
    have c__law_grown_expr : Cal P w K mg base (n + 3) "_law_grown_expr" (spGrowE K n) := ok_law_grown_expr T n
    have c__law_draw : Cal P w K mg base 1 "_law_draw" spDraw := ok_law_draw T
    have c__law_pick : Cal P w K mg base 2 "_law_pick" (spPick K) := ok_law_pick T
    refine cal T.d__law_grown_cond sc__law_grown_cond (fun vs H Q E h => ?_) (fun f cdv A outer s H vs Q E hr h => ?_)
    · obtain ⟨d, sc, nl, ns, nodes, deep, rfl, _⟩ := h
      rfl
    · obtain ⟨d, sc, nl, ns, nodes, deep, rfl, hD, hR, h1, hdeep, hnodes, k⟩ := h
      refine ⟨_, (pss_cons (ps_set (i := 4) sc__law_grown_cond.nd rfl (Or.inl rfl) (G.pe_c c__law_draw hr (by omega) rfl (pa_cons (pv 0) (pa_cons pe_int pa_nil))))
    (pss_cons (ps_if (PW.pt (pw_or (pt_cmpR op_lt (pv 2) pe_int (nomark _)) (pw_or (pt_cmpR op_lt (pv 3) pe_int (nomark _)) (pw_or1 (pt_cmpR op_eq (pv 4) pe_int (nomark _))))))
      (pss_one (ps_ret (pe_ifExp (pt_cmpR op_eq (G.pe_c c__law_draw hr (by omega) rfl (pa_cons (pv 0) (pa_cons pe_int pa_nil))) pe_int (nomark _)) (pe_tup (pa_cons pe_str pa_nil)) (pe_tup (pa_cons pe_str pa_nil)))))
      pss_nil)
    (pss_cons (ps_if (pt_cmpR op_lt (pv 4) pe_int (nomark _))
      (pss_one (ps_ret (pe_tup (pa_cons pe_str (pa_cons (G.pe_c c__law_grown_cond hr (by omega) rfl (pa_cons (pv 0) (pa_cons (pv 1) (pa_cons (pe_op op_sub (pv 2) pe_int) (pa_cons (pe_op op_sub (pv 3) pe_int) pa_nil))))) pa_nil)))))
      pss_nil)
    (pss_cons (ps_set (i := 5) sc__law_grown_cond.nd rfl (Or.inl rfl) (pe_op op_add pe_int (G.pe_c c__law_draw hr (by omega) rfl (pa_cons (pv 0) (pa_cons (pe_op op_sub (pv 2) pe_int) pa_nil)))))
    (pss_cons (ps_if (PW.pt (pw_and (pt_cmpR op_lt (pv 4) pe_int (nomark _)) (pw_and1 (pt_cmpR op_gt (pv 2) pe_int (nomark _)))))
      (pss_cons (ps_set (i := 6) sc__law_grown_cond.nd rfl (Or.inl rfl) (G.pe_c c__law_grown_cond hr (by omega) rfl (pa_cons (pv 0) (pa_cons (pv 1) (pa_cons (pv 5) (pa_cons (pe_op op_sub (pv 3) pe_int) pa_nil))))))
    (pss_one (ps_ret (pe_tup (pa_cons (G.pe_c c__law_pick hr (by omega) rfl (pa_cons (pv 0) (pa_cons (pe_lst (pa_cons pe_str (pa_cons pe_str pa_nil))) pa_nil))) (pa_cons (pv 6) (pa_cons (G.pe_c c__law_grown_cond hr (by omega) rfl (pa_cons (pv 0) (pa_cons (pv 1) (pa_cons (pe_op op_sub (pe_op op_sub (pv 2) pe_int) (pv 5)) (pa_cons (pe_op op_sub (pv 3) pe_int) pa_nil))))) pa_nil)))))))
      pss_nil)
    (pss_cons (ps_set (i := 6) sc__law_grown_cond.nd rfl (Or.inl rfl) (G.pe_c c__law_grown_expr hr (by omega) rfl (pa_cons (pv 0) (pa_cons (pv 1) (pa_cons (pv 5) (pa_cons (pe_op op_sub (pv 3) pe_int) pa_nil))))))
    (pss_cons (ps_set (i := 7) sc__law_grown_cond.nd rfl (Or.inl rfl) (G.pe_c c__law_pick hr (by omega) rfl (pa_cons (pv 0) (pa_cons (pe_lst (pa_cons pe_str (pa_cons pe_str (pa_cons pe_str (pa_cons pe_str (pa_cons pe_str (pa_cons pe_str pa_nil))))))) pa_nil))))
    (pss_one (ps_ret (pe_tup (pa_cons pe_str (pa_cons (pv 7) (pa_cons (pv 6) (pa_cons (G.pe_c c__law_grown_expr hr (by omega) rfl (pa_cons (pv 0) (pa_cons (pv 1) (pa_cons (pe_op op_sub (pe_op op_sub (pv 2) pe_int) (pv 5)) (pa_cons (pe_op op_sub (pv 3) pe_int) pa_nil))))) pa_nil)))))))))))))), ?_⟩
      walk_at "r"
      refine go ⟨d, sc, 9, rfl, hD, by omega, by omega, fun kind H1 _ _ F1 D1 => ?_⟩
      have R1 := hR.f F1
      dsimp only [gName]
      refine seq_ ?_
      refine cps_if (fun b H' => H' = H1 ∧ (b = false → 3 ≤ nodes ∧ 2 ≤ deep)) ?_ ?_ ?_
      · intro Q q
        walk_at "r"
        refine if_both (fun e => q _ _ ⟨rfl, fun z => by cases z⟩) (fun e1 => ?_)
        walk_at "r"
        refine if_both (fun e => q _ _ ⟨rfl, fun z => by cases z⟩) (fun e2 => ?_)
        walk_at "r"
        exact q _ _ ⟨rfl, fun _ => ⟨by omega, by omega⟩⟩
      · rintro H2 ⟨rfl, _⟩
        walk_at "r"
        refine go ⟨d, sc, 2, rfl, D1, by omega, by omega, fun r H3 _ _ F3 D3 => ?_⟩
        walk_at "r"
        refine if_both (fun e => ?_) (fun e => ?_)
        · walk_at "r"
          rename_i p hp
          exact k _ .yes _ (Da.new hp (.cons (.str _) .nil)) (by simp [Cd.depth]) trivial ((F1.trans F3).trans (Fr.new hp)) (D3.new hp)
        · walk_at "r"
          rename_i p hp
          exact k _ .no _ (Da.new hp (.cons (.str _) .nil)) (by simp [Cd.depth]) trivial ((F1.trans F3).trans (Fr.new hp)) (D3.new hp)
      · rintro H2 ⟨rfl, ne⟩
        obtain ⟨b1, b2⟩ := ne rfl
        walk_at "r"
        refine if_both (fun e => ?_) (fun e => ?_)
        · walk_at "r"
          refine go ⟨d, sc, nl, ns, nodes - 1, deep - 1, rfl, D1, R1, by omega, by omega, by omega, fun v1 e1 H4 a1 dp1 ok1 F4 D4 => ?_⟩
          walk_at "r"
          rename_i p hp
          exact k _ (.not e1) _ (Da.new hp (.cons (.str _) (.cons a1 .nil))) (by simp only [Cd.depth]; omega) ok1 ((F1.trans F4).trans (Fr.new hp)) (D4.new hp)
        walk_at "r"
        refine go ⟨d, sc, nodes - 2, rfl, D1, by omega, by omega, fun many H3 m0 m1 F3 D3 => ?_⟩
        have F3 := F1.trans F3
        have R3 := hR.f F3
        walk_at "s"
        dsimp only [gName]
        refine seq_ ?_
        refine cps_if (fun b H' => H' = H3 ∧ (b = true → 4 < nodes)) ?_ ?_ ?_
        · intro Q q
          walk_at "r"
          refine if_both (fun e1 => ?_) (fun e1 => q _ _ ⟨rfl, fun z => by cases z⟩)
          walk_at "r"
          refine q _ _ ⟨rfl, fun z => by simpa using z⟩
        · rintro H4 ⟨rfl, n4⟩
          have n4 := n4 rfl
          walk_at "r"
          refine go ⟨d, sc, nl, ns, 1 + many, deep - 1, rfl, D3, R3, by omega, by omega, by omega, fun v1 e1 H5 a1 dp1 ok1 F5 D5 => ?_⟩
          have F5' := F3.trans F5
          walk_at "r"
          rename_i p hp
          have np := D5.ne_d hp
          refine go ⟨d, sc, .ref p, _, rfl, D5.new hp, Or.inl (SqL.of upd_same), by decide, by decide, by intro q; exact np (by injection q), fun v H6 hv F6 D6 => ?_⟩
          have F6a := (Fr.new hp).trans F6
          have F6' := F5'.trans F6a
          have R6 := hR.f F6'
          have hv2 : v = .str "and" ∨ v = .str "or" := by
            rcases List.mem_cons.mp hv with h | h
            · exact .inl h
            · exact .inr (List.mem_singleton.mp h)
          walk_at "r"
          refine go ⟨d, sc, nl, ns, nodes - 1 - (1 + many), deep - 1, rfl, D6, R6, by omega, by omega, by omega, fun v2 e2 H7 a2 dp2 ok2 F7 D7 => ?_⟩
          walk_at "r"
          rename_i p7 hp7
          have F8 := (F6'.trans F7).trans (Fr.new (o := .tup [v, v1, v2]) hp7)
          rcases hv2 with rfl | rfl
          · exact k _ (.and e1 e2) _ (Da.new hp7 (.cons (.str _) (.cons ((a1.f F6a).f F7) (.cons a2 .nil)))) (by simp only [Cd.depth]; omega) ⟨ok1, ok2⟩ F8 (D7.new hp7)
          · exact k _ (.or e1 e2) _ (Da.new hp7 (.cons (.str _) (.cons ((a1.f F6a).f F7) (.cons a2 .nil)))) (by simp only [Cd.depth]; omega) ⟨ok1, ok2⟩ F8 (D7.new hp7)
        · rintro H4 ⟨rfl, _⟩
          walk_at "r"
          refine go ⟨d, sc, nl, ns, 1 + many, deep - 1, rfl, D3, R3, by omega, by omega, by omega, fun v1 e1 H5 a1 dp1 ok1 F5 D5 => ?_⟩
          have F5' := F3.trans F5
          walk_at "r"
          rename_i p hp
          have np := D5.ne_d hp
          refine go ⟨d, sc, .ref p, _, rfl, D5.new hp, Or.inl (SqL.of upd_same), by decide, by decide, by intro q; exact np (by injection q), fun v H6 hv F6 D6 => ?_⟩
          have F6a := (Fr.new hp).trans F6
          have F6' := F5'.trans F6a
          have R6 := hR.f F6'
          obtain ⟨g, rfl⟩ : ∃ g : Sg, v = .str g.s := by
            simp only [List.mem_cons, List.not_mem_nil, or_false] at hv
            rcases hv with h | h | h | h | h | h
            · exact ⟨.eq, h⟩
            · exact ⟨.ne, h⟩
            · exact ⟨.lt, h⟩
            · exact ⟨.le, h⟩
            · exact ⟨.gt, h⟩
            · exact ⟨.ge, h⟩
          walk_at "r"
          refine go ⟨d, sc, nl, ns, nodes - 1 - (1 + many), deep - 1, rfl, D6, R6, by omega, by omega, by omega, fun v2 e2 H7 a2 dp2 ok2 F7 D7 => ?_⟩
          walk_at "r"
          rename_i p7 hp7
          exact k _ (.test g e1 e2) _ (Da.new hp7 (.cons (.str _) (.cons (.str _) (.cons ((a1.f F6a).f F7) (.cons a2 .nil))))) (by simp only [Cd.depth]; omega) ⟨ok1, ok2⟩ ((F6'.trans F7).trans (Fr.new hp7)) (D7.new hp7)
end

section
variable {P : Program} {w : World} {K : PySem.W.Frag} {mg : Str → Option Value} {base : Heap}
/-- a list of conditions over these names -/
def Conds (K : PySem.W.Frag) (H : Hp) (r : Addr) (Pn : Str → Prop) (n : Nat) : Prop := ∃ (xs : List V) (cs : List Cd), H r = some (.lst xs) ∧ Das K H xs (cs.map Cd.d) ∧ (∀ c ∈ cs, c.depth ≤ 8 ∧ c.ok Pn) ∧ xs.length ≤ n
def Exprs (K : PySem.W.Frag) (H : Hp) (r : Addr) (Pn : Str → Prop) (n : Nat) : Prop := ∃ (xs : List V) (cs : List Ex), H r = some (.lst xs) ∧ Das K H xs (cs.map Ex.d) ∧ (∀ c ∈ cs, c.depth ≤ 8 ∧ c.ok Pn) ∧ xs.length ≤ n
theorem Conds.f {H H' : Hp} {S : List Addr} {r : Addr} {Pn : Str → Prop} {n : Nat} (h : Conds K H r Pn n) (F : Fr S H H') (ns : r ∉ S) : Conds K H' r Pn n := by
  obtain ⟨xs, cs, h1, h2, h3⟩ := h
  exact ⟨xs, cs, F.md _ _ h1 ns, h2.f F, h3⟩
theorem Exprs.f {H H' : Hp} {S : List Addr} {r : Addr} {Pn : Str → Prop} {n : Nat} (h : Exprs K H r Pn n) (F : Fr S H H') (ns : r ∉ S) : Exprs K H' r Pn n := by
  obtain ⟨xs, cs, h1, h2, h3⟩ := h
  exact ⟨xs, cs, F.md _ _ h1 ns, h2.f F, h3⟩
def spEach (K : PySem.W.Frag) : Sp := fun vs H Q _ => ∃ (d sc nl : Addr) (ns : List Str), vs = [.ref d, .ref nl] ∧ Dr H d sc ∧ Row H nl d ns ∧
  ∀ r H', H r = none → Conds K H' r (· ∈ ns) 18 → Fr [d] H H' → Dr H' d sc → Q (.ref r) H'
theorem ok_law_each_sign (T : Top K mg) : Cal P w K mg base 12 "_law_each_sign" (spEach K) := by
  have c__law_grown_expr : Cal P w K mg base (6 + 3) "_law_grown_expr" (spGrowE K 6) := ok_law_grown_expr T 6
  have c__law_draw : Cal P w K mg base 1 "_law_draw" spDraw := ok_law_draw T
  refine cal T.d__law_each_sign sc__law_each_sign (fun vs H Q E h => ?_) (fun f cdv A outer s H vs Q E hr h => ?_)
  · obtain ⟨d, sc, nl, ns, rfl, _⟩ := h
    rfl
  · obtain ⟨d, sc, nl, ns, rfl, hD, hR, k⟩ := h
    refine ⟨_, (pss_cons (ps_set (i := 2) sc__law_each_sign.nd rfl (Or.inl rfl) (G.pe_c c__law_grown_expr hr (by omega) rfl (pa_cons (pv 0) (pa_cons (pv 1) (pa_cons pe_int (pa_cons pe_int pa_nil))))))
    (pss_cons (ps_set (i := 3) sc__law_each_sign.nd rfl (Or.inl rfl) (pe_tup (pa_cons pe_str (pa_cons (pv 2) (pa_cons (pe_tup (pa_cons pe_str (pa_cons (pe_op op_add pe_int (G.pe_c c__law_draw hr (by omega) rfl (pa_cons (pv 0) (pa_cons pe_int pa_nil)))) pa_nil))) pa_nil)))))
    (pss_cons (ps_set (i := 4) sc__law_each_sign.nd rfl (Or.inl rfl) (pe_lst pa_nil))
    (pss_cons (ps_for PassesOwn.never rfl (G.piL (K := K) (pe_lst (pa_cons pe_str (pa_cons pe_str (pa_cons pe_str (pa_cons pe_str (pa_cons pe_str (pa_cons pe_str pa_nil)))))))) (pg_name (i := 5) sc__law_each_sign.nd rfl (Or.inl rfl))
      (pss_one (ps_expr (G.bm (K := K) PySem.F.plainAttrs_list PySem.F.slot_list_extend PySem.F.type_list_extend mt_extend (pv 4) (pa_cons (pe_lst (pa_cons (pe_tup (pa_cons pe_str (pa_cons (pv 5) (pa_cons (pv 2) (pa_cons (pv 2) pa_nil))))) (pa_cons (pe_tup (pa_cons pe_str (pa_cons (pv 5) (pa_cons (pv 2) (pa_cons (pv 3) pa_nil))))) (pa_cons (pe_tup (pa_cons pe_str (pa_cons (pv 5) (pa_cons (pv 3) (pa_cons (pv 2) pa_nil))))) pa_nil)))) pa_nil)))))
    (pss_one (ps_ret (pv 4))))))), ?_⟩
    walk_at "r"
    refine go ⟨d, sc, nl, ns, 6, 6, rfl, hD, hR, by omega, by omega, by omega, fun v1 e1 H1 a1 dp1 ok1 F1 D1 => ?_⟩
    dsimp only [gName]
    refine cps_set (fun v H' => ∃ e2 : Ex, Da K H' v e2.d ∧ e2.depth ≤ 7 ∧ e2.ok (· ∈ ns) ∧ Fr [d] H1 H' ∧ Dr H' d sc) ?_ ?_
    · intro Q q
      walk_at "r"
      refine go ⟨d, sc, 9, rfl, D1, by omega, by omega, fun r H2 _ _ F2 D2 => ?_⟩
      walk_at "r"
      rename_i p hp p2 hp2
      exact q _ _ ⟨.plus e1 (.num (1 + r)), Da.new hp2 (.cons (.str _) (.cons ((a1.f F2).f (Fr.new (S := []) hp)) (.cons (Da.new hp (.cons (.str _) (.cons (.int _) .nil))) .nil))), by simp only [Ex.depth]; omega, ⟨ok1, trivial⟩, (F2.trans (Fr.new hp)).trans (Fr.new hp2), (D2.new hp).new hp2⟩
    rintro v2 H2 ⟨e2, a2, dp2, ok2, F2, D2⟩
    walk_at "r"
    rename_i L hL p hp
    refine ⟨⟨_, SqL.of upd_same⟩, ?_⟩
    have nd := D2.ne_d hL
    have nsc := D2.ne_sc hL
    have nLp : L ≠ p := ne_of_none upd_same hp
    have nlL : nl ≠ L := ne_of_none (F2.md _ _ (F1.md _ _ hR.1 (by simp [hR.2])) (by simp [hR.2])) hL
    refine for_list (K := K) (fun i σ H' => ∃ (v5 : Option V) (xs : List V) (cs : List Cd), σ = [some (.ref d), some (.ref nl), some v1, some v2, some (.ref L), v5] ∧ H' L = some (.lst xs) ∧ Das K H' xs (cs.map Cd.d) ∧ (∀ c ∈ cs, c.depth ≤ 8 ∧ c.ok (· ∈ ns)) ∧ xs.length ≤ 3 * i ∧
        SqL K H' p [V.str "=", V.str "/=", V.str "<", V.str "<=", V.str ">", V.str ">="] ∧ Fr [] H2 H' ∧ Dr H' d sc)
      ⟨none, [], [], rfl, by rw [upd_ne nLp]; exact upd_same, .nil, (fun _ h => by cases h), Nat.le_refl _, SqL.of upd_same, (Fr.new hL).trans (Fr.new hp), (D2.new hL).new hp⟩ (fun i σ H' _ ⟨_, _, _, _, _, _, _, _, h, _⟩ => h) ?_ ?_
    · rintro i x σ H3 hx ⟨v5, xs, cs, rfl, h1, h2, h3, h4, h5, F3, D3⟩
      obtain ⟨g, rfl⟩ : ∃ g : Sg, x = .str g.s := by
        rcases i with _ | _ | _ | _ | _ | _ | i
        · exact ⟨.eq, (Option.some.inj hx).symm⟩
        · exact ⟨.ne, (Option.some.inj hx).symm⟩
        · exact ⟨.lt, (Option.some.inj hx).symm⟩
        · exact ⟨.le, (Option.some.inj hx).symm⟩
        · exact ⟨.gt, (Option.some.inj hx).symm⟩
        · exact ⟨.ge, (Option.some.inj hx).symm⟩
        · simp at hx
      walk_at "r"
      rename_i p1 q1 p2 q2 p3 q3 b hb
      have G1 : Fr [] H3 _ := (((Fr.new (o := .tup [.str "test", .str g.s, v1, v1]) q1).trans (Fr.new (o := .tup [.str "test", .str g.s, v1, v2]) q2)).trans (Fr.new (o := .tup [.str "test", .str g.s, v2, v1]) q3)).trans (Fr.new (o := .lst [.ref p1, .ref p2, .ref p3]) hb)
      refine ⟨_, _, _, _, rfl, rfl, G1.md _ _ h1 (by simp), upd_same, by show xs.length + 3 ≤ 16777216; have : i < 6 := (List.getElem?_eq_some_iff.mp hx).1; omega, ?_⟩
      have A1 : Da K H3 v1 e1.d := (a1.f F2).f F3
      have A2 : Da K H3 v2 e2.d := a2.f F3
      have N1 : Fr [] H3 (upd H3 p1 (.tup [.str "test", .str g.s, v1, v1])) := Fr.new q1
      have N2 := N1.trans (Fr.new (o := .tup [.str "test", .str g.s, v1, v2]) q2)
      have Fp := Fr.putL (S := [L]) (o := .lst (xs ++ [.ref p1, .ref p2, .ref p3])) (by simp) (G1.md _ _ h1 (by simp))
      have M2 := Fr.new (S := []) (o := .tup [.str "test", .str g.s, v1, v2]) q2
      have M3 := Fr.new (S := []) (o := .tup [.str "test", .str g.s, v2, v1]) q3
      have M4 := Fr.new (S := []) (o := .lst [.ref p1, .ref p2, .ref p3]) hb
      have t1 : Da K _ (.ref p1) (Cd.test g e1 e1).d := ((((Da.new q1 (.cons (.str _) (.cons (.str _) (.cons A1 (.cons A1 .nil))))).f M2).f M3).f M4).f Fp
      have t2 : Da K _ (.ref p2) (Cd.test g e1 e2).d := (((Da.new q2 (.cons (.str _) (.cons (.str _) (.cons (A1.f N1) (.cons (A2.f N1) .nil))))).f M3).f M4).f Fp
      have t3 : Da K _ (.ref p3) (Cd.test g e2 e1).d := ((Da.new q3 (.cons (.str _) (.cons (.str _) (.cons (A2.f N2) (.cons (A1.f N2) .nil))))).f M4).f Fp
      refine ⟨_, _, cs ++ [.test g e1 e1, .test g e1 e2, .test g e2 e1], rfl, upd_same, ?_, ?_, ?_, Fp.sqL (G1.sqL h5 (by simp)) (by simp [nLp.symm]), (F3.trans G1).mut hL, ((((D3.new q1).new q2).new q3).new hb).put nd nsc⟩
      · rw [List.map_append]
        exact Das.app ((h2.f G1).f Fp) (.cons t1 (.cons t2 (.cons t3 .nil)))
      · intro c hc
        rcases List.mem_append.mp hc with h | h
        · exact h3 c h
        · simp only [List.mem_cons, List.not_mem_nil, or_false] at h
          rcases h with rfl | rfl | rfl
          · exact ⟨by simp only [Cd.depth]; omega, ok1, ok1⟩
          · exact ⟨by simp only [Cd.depth]; omega, ok1, ok2⟩
          · exact ⟨by simp only [Cd.depth]; omega, ok2, ok1⟩
      · rw [List.length_append]; show xs.length + 3 ≤ _; omega
    · rintro σ H3 ⟨v5, xs, cs, rfl, h1, h2, h3, h4, h5, F3, D3⟩
      walk_at "r"
      exact k L H3 ((F1.trans F2).fresh hL (by simp [nd])) ⟨xs, cs, h1, h2, h3, h4⟩ ((F1.trans F2).trans F3.nil) D3
theorem know_step {ns : List Str} {i : Nat} {s1 : Str} {kvs : List (Key × V)} {x : Int} (h : ∀ j, j < i → ∀ s, ns[j]? = some s → Knows kvs s) (hs1 : ns[i]? = some s1) :
    ∀ j, j < i + 1 → ∀ s, ns[j]? = some s → Knows (putK kvs (.inr s1) (.int x)) s := fun j hj s e => by
  by_cases hji : j = i
  · subst hji
    rw [hs1] at e
    cases e
    exact Knows.new _ _
  · exact (h j (by omega) s e).put _ _
def spDrawn (K : PySem.W.Frag) : Sp := fun vs H Q _ => ∃ (d sc nl : Addr) (ns : List Str), vs = [.ref d, .ref nl] ∧ Dr H d sc ∧ Row H nl d ns ∧ ns.length ≤ 1000 ∧
  ∀ r kvs H', H r = none → H' r = some (.dK kvs) → SI kvs → (∀ s ∈ ns, Knows kvs s) → kvs.length ≤ 3 * ns.length → Fr [d] H H' → Dr H' d sc → Q (.ref r) H'
theorem ok_law_drawn_values (T : Top K mg) : Cal P w K mg base 2 "_law_drawn_values" (spDrawn K) := by
  have c__law_draw : Cal P w K mg base 1 "_law_draw" spDraw := ok_law_draw T
  refine cal T.d__law_drawn_values sc__law_drawn_values (fun vs H Q E h => ?_) (fun f cdv A outer s H vs Q E hr h => ?_)
  · obtain ⟨d, sc, nl, ns, rfl, _⟩ := h
    rfl
  · obtain ⟨d, sc, nl, ns, rfl, hD, hR, hnl, k⟩ := h
    refine ⟨_, (pss_cons (ps_set (i := 2) sc__law_drawn_values.nd rfl (Or.inl rfl) pe_dnewK)
    (pss_cons (ps_for PassesOwn.never rfl (G.piL (K := K) (pv 1)) (pg_name (i := 3) sc__law_drawn_values.nd rfl (Or.inl rfl))
      (pss_cons (ps_set (i := 4) sc__law_drawn_values.nd rfl (Or.inl rfl) (G.pe_c c__law_draw hr (by omega) rfl (pa_cons (pv 0) (pa_cons pe_int pa_nil))))
    (pss_cons (ps_dput (hu_of hr) (pv 2) (pv 3) (G.pe_c c__law_draw hr (by omega) rfl (pa_cons (pv 0) (pa_cons pe_int pa_nil))) rfl)
    (C8.pss_cut (ps_if (pt_cmpR op_eq (pv 4) pe_int (nomark _))
      (pss_one (ps_dput (hu_of hr) (pv 2) (pv 3) (pe_op op_sub (pe_un un_neg pe_int) (G.pe_c c__law_draw hr (by omega) rfl (pa_cons (pv 0) (pa_cons pe_int pa_nil)))) rfl))
      pss_nil)
    (pss_one (ps_if (pt_cmpR op_eq (pv 4) pe_int (nomark _))
      (pss_one (ps_dput (hu_of hr) (pv 2) (pv 3) (pe_op op_sub (G.pe_c c__law_draw hr (by omega) rfl (pa_cons (pv 0) (pa_cons (pe_op op_pow pe_int pe_int) pa_nil))) (pe_op op_mul pe_int (pe_op op_pow pe_int pe_int))) rfl))
      pss_nil))))))
    (pss_one (ps_ret (pv 2))))), ?_⟩
    intro r hr0
    have nd := hD.ne_d hr0
    have nsc := hD.ne_sc hr0
    have nnr : nl ≠ r := ne_of_none hR.1 hr0
    refine ⟨_, rfl, nl, rfl, ⟨_, SqL.of ((Fr.new (S := []) hr0).md _ _ hR.1 (by simp))⟩, for_list (K := K) (xs := ns.map V.str) (fun i σ H' => ∃ (v3 v4 : Option V) (kvs : List (Key × V)), σ = [some (.ref d), some (.ref nl), some (.ref r), v3, v4] ∧ H' r = some (.dK kvs) ∧ SI kvs ∧
        (∀ j, j < i → ∀ s, ns[j]? = some s → Knows kvs s) ∧ kvs.length ≤ 3 * i ∧ Fr [d] H H' ∧ Dr H' d sc)
      ⟨none, none, [], rfl, upd_same, SI.nil, (fun j hj => by omega), Nat.le_refl _, Fr.new hr0, hD.new hr0⟩ (fun i σ H' _ ⟨_, _, _, _, _, _, _, _, F, _⟩ => SqL.of (F.md _ _ hR.1 (by simp [hR.2]))) ?_ ?_⟩
    · rintro i x σ H1 hx ⟨v3, v4, kvs, rfl, g1, g2, g3, g4, F1, D1⟩
      obtain ⟨s1, rfl, hs1⟩ : ∃ s, x = .str s ∧ ns[i]? = some s := by
        rw [List.getElem?_map] at hx
        cases e : ns[i]? with
        | none => rw [e] at hx; cases hx
        | some s => rw [e] at hx; exact ⟨s, (Option.some.inj hx).symm, rfl⟩
      have hi : i < ns.length := (List.getElem?_eq_some_iff.mp hs1).1
      walk_at "r"
      refine go ⟨d, sc, 9, rfl, D1, by omega, by omega, fun kd H2 _ _ F2 D2 => ?_⟩
      walk_at "r"
      refine go ⟨d, sc, 8, rfl, D2, by omega, by omega, fun x3 H3 _ _ F3 D3 => ?_⟩
      walk_at "r"
      have r3 := (F2.trans F3).md _ _ g1 (by simp [nd])
      refine ⟨_, _, rfl, dput_s r3 (by show _ < 16777216; omega), ?_⟩
      refine cut_ (fun σ H' => ∃ kvs' : List (Key × V), σ = [some (.ref d), some (.ref nl), some (.ref r), some (.str s1), some (.int kd)] ∧ H' r = some (.dK kvs') ∧ SI kvs' ∧
        (∀ j, j < i + 1 → ∀ s, ns[j]? = some s → Knows kvs' s) ∧ kvs'.length ≤ 3 * i + 2 ∧ Fr [d] H H' ∧ Dr H' d sc) ?_ ?_
      · walk_at "r"
        have l4 := length_putK kvs (.inr s1 : Key) (.int x3)
        have F4 : Fr [r] H3 (upd H3 r (.dK (putK kvs (.inr s1) (.int x3)))) := Fr.putD (by simp) r3
        have F4' : Fr [d] H (upd H3 r (.dK (putK kvs (.inr s1) (.int x3)))) := ((F1.trans F2).trans F3).mut hr0
        have D4 : Dr (upd H3 r (.dK (putK kvs (.inr s1) (.int x3)))) d sc := D3.put nd nsc
        refine if_both (fun e => ?_) (fun e => ?_)
        · walk_at "r"
          refine go ⟨d, sc, 9, rfl, D4, by omega, by omega, fun x5 H5 _ _ F5 D5 => ?_⟩
          walk_at "r"
          have r5 := F5.md _ _ (upd_same (H := H3) (a := r) (o := .dK (putK kvs (.inr s1) (.int x3)))) (by simp [nd])
          have l5 := length_putK (putK kvs (.inr s1) (.int x3)) (.inr s1 : Key) (.int (-1 - x5))
          refine ⟨_, _, rfl, dput_s r5 (by show _ < 16777216; omega), ?_⟩
          exact ⟨_, rfl, upd_same, (g2.put _ _).put _ _, fun j hj s e => ((know_step g3 hs1) j hj s e).put _ _, Nat.le_trans (length_putK _ _ _) (by omega), (F4'.trans F5).mut hr0, D5.put nd nsc⟩
        · exact ⟨_, rfl, upd_same, g2.put _ _, know_step g3 hs1, by omega, F4', D4⟩
      · rintro σ H4 ⟨kvs', rfl, m1, m2, m3, m4, F4, D4⟩
        walk_at "r"
        refine if_both (fun e => ?_) (fun e => ?_)
        · walk_at "r"
          refine go ⟨d, sc, _, rfl, D4, by decide, by decide, fun x5 H5 _ _ F5 D5 => ?_⟩
          walk_at "r"
          have r5 := F5.md _ _ m1 (by simp [nd])
          have l5 := length_putK kvs' (.inr s1 : Key) (.int (x5 - 4 * 10 ^ Int.toNat 11))
          refine ⟨_, _, rfl, dput_s r5 (by show _ < 16777216; omega), ?_⟩
          exact ⟨_, _, _, rfl, upd_same, m2.put _ _, fun j hj s e => (m3 j hj s e).put _ _, Nat.le_trans (length_putK _ _ _) (by omega), (F4.trans F5).mut hr0, D5.put nd nsc⟩
        · exact ⟨_, _, _, rfl, m1, m2, m3, by omega, F4, D4⟩
    · rintro σ H1 ⟨v3, v4, kvs, rfl, g1, g2, g3, g4, F1, D1⟩
      walk_at "r"
      rw [List.length_map] at g3 g4
      refine k r kvs H1 hr0 g1 g2 (fun s hs => ?_) g4 F1 D1
      obtain ⟨j, hj, e⟩ := List.getElem_of_mem hs
      exact g3 j hj s (by rw [List.getElem?_eq_getElem hj, e])
theorem Ex.ok_imp {A B : Str → Prop} (h : ∀ s, A s → B s) : ∀ {e : Ex}, e.ok A → e.ok B
  | .num _, _ => trivial
  | .fld s, q => h s q
  | .plus _ _, q => ⟨Ex.ok_imp h q.1, Ex.ok_imp h q.2⟩
  | .minus _ _, q => ⟨Ex.ok_imp h q.1, Ex.ok_imp h q.2⟩
theorem Cd.ok_imp {A B : Str → Prop} (h : ∀ s, A s → B s) : ∀ {e : Cd}, e.ok A → e.ok B
  | .yes, _ => trivial
  | .no, _ => trivial
  | .test _ _ _, q => ⟨Ex.ok_imp h q.1, Ex.ok_imp h q.2⟩
  | .not a, q => Cd.ok_imp (e := a) h q
  | .and _ _, q => ⟨Cd.ok_imp h q.1, Cd.ok_imp h q.2⟩
  | .or _ _, q => ⟨Cd.ok_imp h q.1, Cd.ok_imp h q.2⟩
/-- the pairs taken so far do not have the next key -/
theorem si_next {kvs : List (Key × V)} (h : SI kvs) {i : Nat} {k : Key} {v : V} (e : kvs[i]? = some (k, v)) : putK (kvs.take i) k v = kvs.take (i + 1) := by
  have hi := (List.getElem?_eq_some_iff.mp e).1
  have e2 : kvs.take (i + 1) = kvs.take i ++ [(k, v)] := by
    rw [List.take_add_one, e]
    rfl
  rw [e2, putK_new]
  cases q : valV (kvs.take i) k with
  | none => rfl
  | some z =>
    have hm := valV_in q
    have hn := h.nd
    rw [← List.take_append_drop (i + 1) kvs, e2, List.map_append, List.map_append] at hn
    have hn1 := (List.nodup_append.mp hn).1
    have hn2 := (List.nodup_append.mp hn1).2.2 k hm k (by simp)
    exact absurd rfl hn2
/-- the dict at h is read while kept copies it -/
def spAgrees (K : PySem.W.Frag) : Sp := fun vs H Q _ => ∃ (ex cn h : Addr) (kvs : List (Key × V)), vs = [.ref ex, .ref cn, .ref h] ∧ Exprs K H ex (Knows kvs) 100 ∧ Conds K H cn (Knows kvs) 100 ∧ H h = some (.dK kvs) ∧ SI kvs ∧ kvs.length ≤ 10000 ∧
  ∀ H', Fr [] H H' → Q (.bl true) H'
theorem ok_law_agrees (T : Top K mg) : Cal P w K mg base 11 "_law_agrees" (spAgrees K) := by
  have c__law_value : Cal P w K mg base (8 + 1) "_law_value" (spVal K 8) := ok_law_value T 8
  have c_value_of : Cal P w K mg base (8 + 1) "value_of" (spVal K 8) := ok_value_of T 8
  have c__law_holds : Cal P w K mg base (8 + 2) "_law_holds" (spHolds K 8) := ok_law_holds T 8
  have c_holds : Cal P w K mg base (8 + 2) "holds" (spHolds K 8) := ok_holds T 8
  have c__law_same : Cal P w K mg base (1 + 2) "_law_same" (spSame K 1) := ok_law_same T 1
  refine cal T.d__law_agrees sc__law_agrees (fun vs H Q E h => ?_) (fun f cdv A outer s H vs Q E hr h => ?_)
  · obtain ⟨ex, cn, h, kvs, rfl, _⟩ := h
    rfl
  · obtain ⟨ex, cn, h, kvs, rfl, hE, hC, hh, hS, hl, k⟩ := h
    refine ⟨_, (pss_cons (ps_set (i := 3) sc__law_agrees.nd rfl (Or.inl rfl) pe_dnewK)
    (pss_cons (ps_lock (ps_for PassesOwn.never rfl (pi_keys (pv 2)) (pg_name (i := 4) sc__law_agrees.nd rfl (Or.inl rfl))
      (pss_one (ps_dput (hu_of hr) (pv 3) (pv 4) (pe_dget (hu_of hr) (pv 2) (pv 4) (fun _ _ => rfl)) rfl))))
    (pss_cons (ps_for PassesOwn.never rfl (G.piL (K := K) (pv 0)) (pg_name (i := 5) sc__law_agrees.nd rfl (Or.inl rfl))
      (pss_cons (ps_set (i := 6) sc__law_agrees.nd rfl (Or.inl rfl) (G.pe_c c__law_value hr (by omega) rfl (pa_cons (pv 5) (pa_cons (pv 3) pa_nil))))
    (pss_one (ps_if (pt_not (pt_val (G.pe_c c__law_same hr (by omega) rfl (pa_cons (G.pe_c c_value_of hr (by omega) rfl (pa_cons (pv 5) (pa_cons (pv 2) pa_nil))) (pa_cons (pv 6) pa_nil)))))
      (pss_one (ps_ret pe_bl))
      pss_nil))))
    (pss_cons (ps_for PassesOwn.never rfl (G.piL (K := K) (pv 1)) (pg_name (i := 7) sc__law_agrees.nd rfl (Or.inl rfl))
      (pss_cons (ps_set (i := 6) sc__law_agrees.nd rfl (Or.inl rfl) (G.pe_c c__law_holds hr (by omega) rfl (pa_cons (pv 7) (pa_cons (pv 3) pa_nil))))
    (pss_one (ps_if (pt_not (pt_val (G.pe_c c__law_same hr (by omega) rfl (pa_cons (G.pe_c c_holds hr (by omega) rfl (pa_cons (pv 7) (pa_cons (pv 2) pa_nil))) (pa_cons (pv 6) pa_nil)))))
      (pss_one (ps_ret pe_bl))
      pss_nil))))
    (pss_one (ps_ret (pe_cmpR (op_eq_dictA hr.units0) (pv 2) (pv 3) (nomark _)))))))), ?_⟩
    intro kp hkp
    have nkh : kp ≠ h := (ne_of_none hh hkp).symm
    refine ⟨h, .dK kvs, by rw [upd_ne nkh.symm]; exact hh, trivial, fun od => ?_⟩
    refine ⟨_, rfl, h, od, rfl, .inl ⟨kvs, upd_same, for_it walk_keys (fun i σ H' => ∃ v4 : Option V, σ = [some (.ref ex), some (.ref cn), some (.ref h), some (.ref kp), v4, none, none, none] ∧ H' kp = some (.dK (kvs.take i)) ∧ H' h = some (.frz od (.dK kvs)) ∧
        ∀ a, a ≠ kp → a ≠ h → H' a = H a) ?_ (fun i σ H' _ ⟨_, _, _, z, _⟩ => z) ?_ ?_⟩⟩
    · exact ⟨none, rfl, by rw [upd_ne nkh]; exact upd_same, upd_same, fun a n1 n2 => by rw [upd_ne n2, upd_ne n1]⟩
    · rintro i x σ H1 H2 hi ⟨v4, rfl, g1, g2, g3⟩ ⟨rfl, kk, v, hkv, rfl⟩
      obtain ⟨s, n, e⟩ := hS.si _ (List.mem_of_getElem? hkv)
      injection e with e1 e2
      subst e1 e2
      have hv := hS.val (List.mem_of_getElem? hkv)
      walk_at "r"
      refine ⟨_, _, rfl, dget_sf g2 hv, ?_⟩
      walk_at "r"
      refine ⟨_, _, rfl, dput_s g1 (by rw [List.length_take]; show _ < 16777216; omega), ?_⟩
      exact ⟨_, rfl, by rw [upd_same]; exact congrArg (fun z => some (HO.dK z)) (si_next hS hkv), by rw [upd_ne nkh.symm]; exact g2, fun a n1 n2 => by rw [upd_ne n1]; exact g3 a n1 n2⟩
    · rintro σ H1 ⟨v4, rfl, g1, g2, g3⟩
      refine ⟨g2, ?_⟩
      rw [List.take_length] at g1
      have F1 : Fr [] H (upd H1 h (.dK kvs)) := by
        refine ⟨fun a o e _ => ?_, fun a xs e => ?_⟩
        · by_cases ah : a = h
          · subst ah; rw [upd_same]; rw [hh] at e; exact e
          · rw [upd_ne ah, g3 a (ne_of_none e hkp) ah]; exact e
        · have nk : a ≠ kp := by
            rcases e with e | ⟨ob, e⟩
            · exact ne_of_none e hkp
            · exact ne_of_none e hkp
          have nh : a ≠ h := by
            rintro rfl
            rcases e with e | ⟨ob, e⟩
            · rw [hh] at e; cases e
            · rw [hh] at e; cases e
          rcases e with e | ⟨ob, e⟩
          · exact .inl (by rw [upd_ne nh, g3 a nk nh]; exact e)
          · exact .inr ⟨ob, by rw [upd_ne nh, g3 a nk nh]; exact e⟩
      have m1 : upd H1 h (.dK kvs) kp = some (.dK kvs) := by rw [upd_ne nkh]; exact g1
      have m2 : upd H1 h (.dK kvs) h = some (.dK kvs) := upd_same
      generalize upd H1 h (.dK kvs) = H2 at F1 m1 m2 ⊢
      clear g1 g2 g3 H1
      have hE2 := hE.f F1 (by simp)
      have hC2 := hC.f F1 (by simp)
      obtain ⟨xs, es, x1, x2, x3, x4⟩ := hE2
      obtain ⟨ys, cs, y1, y2, y3, y4⟩ := hC2
      refine ⟨_, rfl, ex, rfl, ⟨_, SqL.of x1⟩, for_list (K := K) (fun i σ H' => ∃ v4 v5 v6 v7 : Option V, σ = [some (.ref ex), some (.ref cn), some (.ref h), some (.ref kp), v4, v5, v6, v7] ∧ Fr [] H2 H')
        ⟨_, _, _, _, rfl, Fr.refl _⟩ (fun i σ H' _ ⟨_, _, _, _, _, F⟩ => SqL.of (F.md _ _ x1 (by simp))) ?_ ?_⟩
      · rintro i x σ H3 hx ⟨v4, v5, v6, v7, rfl, F3⟩
        obtain ⟨dd, hd1, hd2⟩ := x2.get hx
        rw [List.getElem?_map] at hd1
        obtain ⟨e, he, rfl⟩ : ∃ e, es[i]? = some e ∧ dd = e.d := by
          cases q : es[i]? with
          | none => rw [q] at hd1; cases hd1
          | some e => rw [q] at hd1; exact ⟨e, rfl, (Option.some.inj hd1).symm⟩
        obtain ⟨dp, ok⟩ := x3 e (List.mem_of_getElem? he)
        have ok : e.ok (Holds kvs (env kvs)) := Ex.ok_imp (fun s hs => hs.env) ok
        walk_at "r"
        refine go ⟨_, kp, kvs, env kvs, e, rfl, dp, hd2.f F3, F3.md _ _ m1 (by simp), ok, fun H4 F4 => ?_⟩
        have F4 := F3.trans F4
        walk_at "r"
        refine go ⟨_, h, kvs, env kvs, e, rfl, dp, hd2.f F4, F4.md _ _ m2 (by simp), ok, fun H5 F5 => ?_⟩
        have F5 := F4.trans F5
        walk_at "r"
        refine go ⟨_, _, .int _, .int _, rfl, .int _, .int _, by simp [D.depth], fun H6 F6 => ?_⟩
        rw [D.same_refl]
        walk_at "r"
        exact ⟨_, _, _, _, rfl, F5.trans F6⟩
      · rintro σ H3 ⟨v4, v5, v6, v7, rfl, F3⟩
        refine ⟨_, rfl, cn, rfl, ⟨_, SqL.of (F3.md _ _ y1 (by simp))⟩, for_list (K := K) (fun i σ H' => ∃ v4 v5 v6 v7 : Option V, σ = [some (.ref ex), some (.ref cn), some (.ref h), some (.ref kp), v4, v5, v6, v7] ∧ Fr [] H2 H')
          ⟨_, _, _, _, rfl, F3⟩ (fun i σ H' _ ⟨_, _, _, _, _, F⟩ => SqL.of (F.md _ _ y1 (by simp))) ?_ ?_⟩
        · rintro i x σ H3 hx ⟨v4, v5, v6, v7, rfl, F3⟩
          obtain ⟨dd, hd1, hd2⟩ := y2.get hx
          rw [List.getElem?_map] at hd1
          obtain ⟨e, he, rfl⟩ : ∃ e, cs[i]? = some e ∧ dd = e.d := by
            cases q : cs[i]? with
            | none => rw [q] at hd1; cases hd1
            | some e => rw [q] at hd1; exact ⟨e, rfl, (Option.some.inj hd1).symm⟩
          obtain ⟨dp, ok⟩ := y3 e (List.mem_of_getElem? he)
          have ok : e.ok (Holds kvs (env kvs)) := Cd.ok_imp (fun s hs => hs.env) ok
          walk_at "r"
          refine go ⟨_, kp, kvs, env kvs, e, rfl, dp, hd2.f F3, F3.md _ _ m1 (by simp), ok, fun H4 F4 => ?_⟩
          have F4 := F3.trans F4
          walk_at "r"
          refine go ⟨_, h, kvs, env kvs, e, rfl, dp, hd2.f F4, F4.md _ _ m2 (by simp), ok, fun H5 F5 => ?_⟩
          have F5 := F4.trans F5
          walk_at "r"
          refine go ⟨_, _, .bl _, .bl _, rfl, .bl _, .bl _, by simp [D.depth], fun H6 F6 => ?_⟩
          rw [D.same_refl]
          walk_at "r"
          exact ⟨_, _, _, _, rfl, F5.trans F6⟩
        · rintro σ H4 ⟨v4, v5, v6, v7, rfl, F4⟩
          walk_at "r"
          refine ⟨_, _, _, _, rfl, rfl, F4.md _ _ m2 (by simp), F4.md _ _ m1 (by simp), rfl, fun p hp => ⟨hS.val hp, ?_⟩, k _ (F1.trans F4)⟩
          obtain ⟨s, n, rfl⟩ := hS.si p hp
          rfl
end

section
variable {P : Program} {w : World} {K : PySem.W.Frag} {mg : Str → Option Value} {base : Heap}
def spLaw (K : PySem.W.Frag) : Sp := fun vs H Q _ => ∃ (a : Addr) (ns : List Int), vs = [.ref a] ∧ SqL K H a (ns.map V.int) ∧ ns.length ≤ 63 ∧ ∀ H', Q (.bl true) H'
theorem Names.f {H H' : Hp} {S : List Addr} {u : Addr} {us : List Str} (h : Names H u us) (F : Fr S H H') (n : u ∉ S) : Names H' u us := ⟨F.md _ _ h.1 n, h.2⟩
theorem Exprs.imp {H : Hp} {r : Addr} {A B : Str → Prop} {n m : Nat} (h : Exprs K H r A n) (f : ∀ s, A s → B s) (hm : n ≤ m) : Exprs K H r B m := by
  obtain ⟨xs, cs, h1, h2, h3, h4⟩ := h
  exact ⟨xs, cs, h1, h2, fun c hc => ⟨(h3 c hc).1, Ex.ok_imp f (h3 c hc).2⟩, by omega⟩
theorem Conds.imp {H : Hp} {r : Addr} {A B : Str → Prop} {n m : Nat} (h : Conds K H r A n) (f : ∀ s, A s → B s) (hm : n ≤ m) : Conds K H r B m := by
  obtain ⟨xs, cs, h1, h2, h3, h4⟩ := h
  exact ⟨xs, cs, h1, h2, fun c hc => ⟨(h3 c hc).1, Cd.ok_imp f (h3 c hc).2⟩, by omega⟩
/-- what stands while the law asks -/
structure Wd (K : PySem.W.Frag) (H : Hp) (h1 h2 ex cn nl : Addr) (ns : List Str) (k1 k2 : List (Key × V)) (t : Nat) : Prop where
  e1 : H h1 = some (.dK k1)
  e2 : H h2 = some (.dK k2)
  s1 : SI k1
  s2 : SI k2
  n1 : ∀ s ∈ ns, Knows k1 s
  n2 : ∀ s ∈ ns, Knows k2 s
  l1 : k1.length ≤ 100 + t
  l2 : k2.length ≤ 100 + t
  E : Exprs K H ex (· ∈ ns) 100
  C : Conds K H cn (· ∈ ns) 100
  n : H nl = some (.lst (ns.map V.str))
theorem Wd.f {H H' : Hp} {h1 h2 ex cn nl : Addr} {ns : List Str} {k1 k2 : List (Key × V)} {t : Nat} (w : Wd K H h1 h2 ex cn nl ns k1 k2 t) (F : Fr [] H H') : Wd K H' h1 h2 ex cn nl ns k1 k2 t :=
  ⟨F.md _ _ w.e1 (by simp), F.md _ _ w.e2 (by simp), w.s1, w.s2, w.n1, w.n2, w.l1, w.l2, w.E.f F (by simp), w.C.f F (by simp), F.md _ _ w.n (by simp)⟩
theorem Wd.put1 {H : Hp} {h1 h2 ex cn nl : Addr} {ns : List Str} {k1 k2 : List (Key × V)} {t : Nat} (w : Wd K H h1 h2 ex cn nl ns k1 k2 t) (a : h2 ≠ h1) (b : ex ≠ h1) (c : cn ≠ h1) (d : nl ≠ h1) (s : Str) (x : Int) :
    Wd K (upd H h1 (.dK (putK k1 (.inr s) (.int x)))) h1 h2 ex cn nl ns (putK k1 (.inr s) (.int x)) k2 (t + 1) := by
  have F := Fr.putD (S := [h1]) (o := .dK (putK k1 (.inr s) (.int x))) (by simp) w.e1
  have l := length_putK k1 (.inr s : Key) (.int x)
  have l1 := w.l1
  have l2 := w.l2
  exact ⟨upd_same, F.md _ _ w.e2 (by simp [a]), w.s1.put _ _, w.s2, fun s hs => (w.n1 s hs).put _ _, w.n2, by omega, by omega, w.E.f F (by simp [b]), w.C.f F (by simp [c]), F.md _ _ w.n (by simp [d])⟩
theorem Wd.put2 {H : Hp} {h1 h2 ex cn nl : Addr} {ns : List Str} {k1 k2 : List (Key × V)} {t : Nat} (w : Wd K H h1 h2 ex cn nl ns k1 k2 t) (a : h1 ≠ h2) (b : ex ≠ h2) (c : cn ≠ h2) (d : nl ≠ h2) (s : Str) (x : Int) :
    Wd K (upd H h2 (.dK (putK k2 (.inr s) (.int x)))) h1 h2 ex cn nl ns k1 (putK k2 (.inr s) (.int x)) (t + 1) := by
  have F := Fr.putD (S := [h2]) (o := .dK (putK k2 (.inr s) (.int x))) (by simp) w.e2
  have l := length_putK k2 (.inr s : Key) (.int x)
  have l1 := w.l1
  have l2 := w.l2
  exact ⟨F.md _ _ w.e1 (by simp [a]), upd_same, w.s1, w.s2.put _ _, w.n1, fun s hs => (w.n2 s hs).put _ _, by omega, by omega, w.E.f F (by simp [b]), w.C.f F (by simp [c]), F.md _ _ w.n (by simp [d])⟩
theorem ok_law {f : Addr} {fd : FuncData} (T : Top K mg) (F : Fun K "law" "law" s_law f fd) : FnOk P w K mg base CX0 13 f fd ["script"] (spLaw K) := by
  have c__law_begin : Cal P w K mg base 1 "_law_begin" (spBegin K) := ok_law_begin T
  have c__law_draw : Cal P w K mg base 1 "_law_draw" spDraw := ok_law_draw T
  have c__law_pick : Cal P w K mg base 2 "_law_pick" (spPick K) := ok_law_pick T
  have c__law_name : Cal P w K mg base 3 "_law_name" spName := ok_law_name T
  have c__law_grown_expr : Cal P w K mg base (8 + 3) "_law_grown_expr" (spGrowE K 8) := ok_law_grown_expr T 8
  have c__law_grown_cond : Cal P w K mg base (8 + 4) "_law_grown_cond" (spGrowC K 8) := ok_law_grown_cond T 8
  have c__law_each_sign : Cal P w K mg base 12 "_law_each_sign" (spEach K) := ok_law_each_sign T
  have c__law_drawn_values : Cal P w K mg base 2 "_law_drawn_values" (spDrawn K) := ok_law_drawn_values T
  have c__law_agrees : Cal P w K mg base 11 "_law_agrees" (spAgrees K) := ok_law_agrees T
  refine F.ok sc_law (fun vs H Q E h => ?_) (fun cdv A outer s H vs Q E hr h => ?_)
  · obtain ⟨a, ns, rfl, _⟩ := h
    rfl
  · obtain ⟨a, ns0, rfl, hS, hl, k⟩ := h
    refine ⟨_, (pss_cons (ps_set (i := 1) sc_law.nd rfl (Or.inr rfl) (G.pe_c c__law_begin hr (by omega) rfl (pa_cons (pv 0) pa_nil)))
    (pss_cons (ps_set (i := 2) sc_law.nd rfl (Or.inr rfl) (pe_lst pa_nil))
    (pss_cons (ps_set (i := 3) sc_law.nd rfl (Or.inr rfl) (pe_lc (own := [("k", 11)]) rfl sc_law.nd (pi_range1 (by rfl) T.b_range (pa_cons (G.pe_c c__law_pick hr (by omega) rfl (pa_cons (pv 1) (pa_cons (pe_lst (pa_cons pe_int (pa_cons pe_int (pa_cons pe_int (pa_cons pe_int (pa_cons pe_int (pa_cons pe_int (pa_cons pe_int (pa_cons pe_int pa_nil))))))))) pa_nil))) pa_nil)) (blkOk_by (N := N_law) (sc := defScope s_law) (by decide +kernel)) (fun _ _ _ _ _ => (pg_name (i := 11) sc_law.nd rfl (Or.inl rfl))) (fun _ _ _ _ _ => pts_nil) (fun _ _ _ _ _ => (G.pe_c c__law_name hr (by omega) rfl (pa_cons (pv 1) (pa_cons (pv 2) pa_nil))))))
    (pss_cons (ps_setLc (i := 4) (own := [("k", 11)]) rfl sc_law.nd rfl rfl (sw_true rfl rfl rfl (by decide +kernel)) (pi_range1 (by rfl) T.b_range (pa_cons pe_int pa_nil)) (blkOk_by (N := N_law) (sc := defScope s_law) (by decide +kernel)) (fun _ _ _ _ _ => (pg_name (i := 11) sc_law.nd rfl (Or.inl rfl))) (fun _ _ _ _ _ => pts_nil) (fun _ _ _ _ _ => (G.pe_c c__law_grown_expr hr (by omega) rfl (pa_cons (pv 1) (pa_cons (pv 3) (pa_cons (G.pe_c c__law_pick hr (by omega) rfl (pa_cons (pv 1) (pa_cons (pe_lst (pa_cons pe_int (pa_cons pe_int (pa_cons pe_int (pa_cons pe_int (pa_cons pe_int (pa_cons pe_int pa_nil))))))) pa_nil))) (pa_cons pe_int pa_nil)))))))
    (pss_cons (ps_set (i := 5) sc_law.nd rfl (Or.inl rfl) (G.pe_c c__law_each_sign hr (by omega) rfl (pa_cons (pv 1) (pa_cons (pv 3) pa_nil))))
    (pss_cons (ps_expr (G.bm (K := K) PySem.F.plainAttrs_list PySem.F.slot_list_extend PySem.F.type_list_extend mt_extend (pv 5) (pa_cons (pe_lc (own := [("k", 11)]) rfl sc_law.nd (pi_range1 (by rfl) T.b_range (pa_cons pe_int pa_nil)) (blkOk_by (N := N_law) (sc := defScope s_law) (by decide +kernel)) (fun _ _ _ _ _ => (pg_name (i := 11) sc_law.nd rfl (Or.inl rfl))) (fun _ _ _ _ _ => pts_nil) (fun _ _ _ _ _ => (G.pe_c c__law_grown_cond hr (by omega) rfl (pa_cons (pv 1) (pa_cons (pv 3) (pa_cons (G.pe_c c__law_pick hr (by omega) rfl (pa_cons (pv 1) (pa_cons (pe_lst (pa_cons pe_int (pa_cons pe_int (pa_cons pe_int (pa_cons pe_int (pa_cons pe_int (pa_cons pe_int (pa_cons pe_int (pa_cons pe_int pa_nil))))))))) pa_nil))) (pa_cons pe_int pa_nil))))))) pa_nil)))
    (pss_cons (ps_set (i := 6) sc_law.nd rfl (Or.inl rfl) (G.pe_c c__law_name hr (by omega) rfl (pa_cons (pv 1) (pa_cons (pv 2) pa_nil))))
    (pss_cons (ps_set (i := 7) sc_law.nd rfl (Or.inl rfl) (G.pe_c c__law_drawn_values hr (by omega) rfl (pa_cons (pv 1) (pa_cons (pe_op op_cat (pv 3) (pe_lst (pa_cons (pv 6) pa_nil))) pa_nil))))
    (pss_cons (ps_set (i := 8) sc_law.nd rfl (Or.inl rfl) (G.pe_c c__law_drawn_values hr (by omega) rfl (pa_cons (pv 1) (pa_cons (pe_op op_cat (pv 3) (pe_lst (pa_cons (pv 6) pa_nil))) pa_nil))))
    (pss_cons (ps_for PassesOwn.never rfl (pi_range1 (by rfl) T.b_range (pa_cons pe_int pa_nil)) (pg_name (i := 9) sc_law.nd rfl (Or.inl rfl))
      (pss_cons (ps_if (PW.pt (pw_or (pt_not (pt_val (G.pe_c c__law_agrees hr (by omega) rfl (pa_cons (pv 4) (pa_cons (pv 5) (pa_cons (pv 7) pa_nil)))))) (pw_or1 (pt_not (pt_val (G.pe_c c__law_agrees hr (by omega) rfl (pa_cons (pv 4) (pa_cons (pv 5) (pa_cons (pv 8) pa_nil)))))))))
      (pss_one (ps_ret pe_bl))
      pss_nil)
    (pss_one (ps_for PassesOwn.never rfl (G.piL (K := K) (pv 3)) (pg_name (i := 10) sc_law.nd rfl (Or.inl rfl))
      (pss_cons (ps_dput (hu_of hr) (pv 7) (pv 10) (pe_op op_sub (pe_op op_sub (pe_dget (hu_of hr) (pv 8) (pv 10) (fun _ _ => rfl)) (pe_dget (hu_of hr) (pv 7) (pv 10) (fun _ _ => rfl))) pe_int) rfl)
    (pss_one (ps_dput (hu_of hr) (pv 8) (pv 10) (pe_op op_sub pe_int (pe_dget (hu_of hr) (pv 8) (pv 10) (fun _ _ => rfl))) rfl)))))))
    (pss_one (ps_ret (G.pe_c c__law_agrees hr (by omega) rfl (pa_cons (pv 4) (pa_cons (pv 5) (pa_cons (pv 7) pa_nil)))))))))))))))), ?_⟩
    walk_at "r"
    refine go ⟨a, ns0, rfl, hS, hl, fun d sc H1 _ _ _ D1 => ?_⟩
    walk_at "r"
    rename_i u hu p hp
    have nud := D1.ne_d hu
    have nus := D1.ne_sc hu
    have D2 := (D1.new (o := .lst []) hu)
    have npd := D2.ne_d hp
    have npu : u ≠ p := ne_of_none upd_same hp
    refine go ⟨d, sc, .ref p, _, rfl, D2.new hp, Or.inl (SqL.of upd_same), by decide, by decide, by intro q; exact npd (by injection q), fun v H3 hv F3 D3 => ?_⟩
    have N3 : Names H3 u [] := ⟨F3.md _ _ (by rw [upd_ne npu]; exact upd_same) (by simp [nud]), by simp, by simp⟩
    obtain ⟨c, rfl, c0, c1⟩ : ∃ c : Int, v = .int c ∧ 0 ≤ c ∧ c ≤ 10 := by
      simp only [List.mem_cons, List.not_mem_nil, or_false] at hv
      rcases hv with h | h | h | h | h | h | h | h <;> exact ⟨_, h, by omega, by omega⟩
    clear hv F3 D2
    walk_at "r"
    intro nl hnl
    have nld := D3.ne_d hnl
    have nls := D3.ne_sc hnl
    have nlu : u ≠ nl := ne_of_none N3.1 hnl
    refine lc_range (fun i H' => ∃ ts us : List Str, H' nl = some (.lst (ts.map V.str)) ∧ ts.length ≤ i ∧ Names H' u us ∧ us.length ≤ i ∧ Dr H' d sc)
      ⟨[], [], upd_same, Nat.le_refl _, N3.f (Fr.new hnl (S := [])) (by simp), Nat.le_refl _, D3.new hnl⟩ ?_ ?_
    · rintro i H4 hi ⟨ts, us, g1, g2, g3, g4, D4⟩
      have hi : i < c.toNat := hi
      refine ⟨rfl, ?_⟩
      walk_at "r"
      refine go ⟨d, sc, u, us, rfl, D4, g3, by omega, nud, nus, fun s us' H5 _ n5 l5 F5 D5 => ?_⟩
      refine ⟨_, F5.md _ _ g1 (by simp [nld, nlu.symm]), by rw [List.length_map]; show _ < 16777216; omega, ts ++ [s], us', by rw [upd_same]; simp, by simp; omega, ⟨by rw [upd_ne nlu]; exact n5.1, n5.2⟩, by omega, D5.put nld nls⟩
    rintro H4 ⟨ns, us, hn, hnsl, hus, husl, D4⟩
    have hns10 : ns.length ≤ 10 := by omega
    have hus10 : us.length ≤ 10 := by omega
    clear hnsl husl
    have R4 : Row H4 nl d ns := ⟨hn, nld⟩
    walk_at "r"
    intro ex hex
    have exd := D4.ne_d hex
    have exs := D4.ne_sc hex
    have exn : nl ≠ ex := ne_of_none hn hex
    have exu : u ≠ ex := ne_of_none hus.1 hex
    refine lc_range (fun i H' => Exprs K H' ex (· ∈ ns) i ∧ Row H' nl d ns ∧ Names H' u us ∧ Dr H' d sc)
      ⟨⟨[], [], upd_same, .nil, (fun _ h => by cases h), Nat.le_refl _⟩, ⟨by rw [upd_ne exn]; exact hn, nld⟩, hus.f (Fr.new hex (S := [])) (by simp), D4.new hex⟩ ?_ ?_
    · rintro i H5 hi ⟨⟨xs, es, x1, x2, x3, x4⟩, R5, U5, D5⟩
      have hi : i < 5 := hi
      refine ⟨rfl, ?_⟩
      walk_at "r"
      rename_i q hq
      have nqd := D5.ne_d hq
      refine go ⟨d, sc, .ref q, _, rfl, D5.new hq, Or.inl (SqL.of upd_same), by decide, by decide, by intro z; exact nqd (by injection z), fun v H6 hv F6 D6 => ?_⟩
      obtain ⟨m, rfl, m0, m1⟩ : ∃ c : Int, v = .int c ∧ 0 ≤ c ∧ c ≤ 100 := by
        simp only [List.mem_cons, List.not_mem_nil, or_false] at hv
        rcases hv with h | h | h | h | h | h <;> exact ⟨_, h, by omega, by omega⟩
      have F6 := (Fr.new hq).trans F6
      walk_at "r"
      refine go ⟨d, sc, nl, ns, m, 8, rfl, D6, R5.f F6, by omega, by omega, by omega, fun v7 e7 H7 a7 dp7 ok7 F7 D7 => ?_⟩
      have F7 := F6.trans F7
      have x7 := F7.md _ _ x1 (by simp [exd])
      have Fx := Fr.putL (S := [ex]) (o := .lst (xs ++ [v7])) (by simp) x7
      refine ⟨_, x7, by show _ < 16777216; omega, ⟨_, es ++ [e7], upd_same, ?_, ?_, by simp; omega⟩, ⟨by rw [upd_ne exn]; exact (R5.f F7).1, nld⟩, ⟨by rw [upd_ne exu]; exact (U5.f F7 (by simp [nud])).1, U5.2⟩, D7.put exd exs⟩
      · rw [List.map_append]
        exact Das.app ((x2.f F7).f Fx) (.cons (a7.f Fx) .nil)
      · intro e he
        rcases List.mem_append.mp he with h | h
        · exact x3 e h
        · rw [List.mem_singleton.mp h]; exact ⟨dp7, ok7⟩
    rintro H5 ⟨E5, R5, U5, D5⟩
    walk_at "r"
    refine go ⟨d, sc, nl, ns, rfl, D5, R5, fun cn H6 hcn C6 F6 D6 => ?_⟩
    have cnd := D5.ne_d hcn
    have cns := D5.ne_sc hcn
    have cnn : nl ≠ cn := ne_of_none R5.1 hcn
    have cnu : u ≠ cn := ne_of_none U5.1 hcn
    have cne : ex ≠ cn := by obtain ⟨xs, es, x1, _⟩ := E5; exact ne_of_none x1 hcn
    have E6 := E5.f F6 (by simp [exd])
    have R6 := R5.f F6
    have U6 := U5.f F6 (by simp [nud])
    clear hn hus D4 hex E5 R5 U5 D5 F6 hcn R4
    walk_at "r"
    refine And.intro (Or.inl ⟨rfl, _, SqL.of C6.choose_spec.choose_spec.1⟩) ?_
    walk_at "r"
    intro C hC
    have Cd' := D6.ne_d hC
    have Cs := D6.ne_sc hC
    have Cn : nl ≠ C := ne_of_none R6.1 hC
    have Cu : u ≠ C := ne_of_none U6.1 hC
    have Ce : ex ≠ C := by obtain ⟨xs, es, x1, _⟩ := E6; exact ne_of_none x1 hC
    have Cc : cn ≠ C := by obtain ⟨xs, es, x1, _⟩ := C6; exact ne_of_none x1 hC
    refine lc_range (fun i H' => Conds K H' C (· ∈ ns) i ∧ Conds K H' cn (· ∈ ns) 18 ∧ Exprs K H' ex (· ∈ ns) (Int.toNat 5) ∧ Row H' nl d ns ∧ Names H' u us ∧ Dr H' d sc)
      ⟨⟨[], [], upd_same, .nil, (fun _ h => by cases h), Nat.le_refl _⟩, C6.f (Fr.new hC (S := [])) (by simp), E6.f (Fr.new hC (S := [])) (by simp), ⟨by rw [upd_ne Cn]; exact R6.1, nld⟩, U6.f (Fr.new hC (S := [])) (by simp), D6.new hC⟩ ?_ ?_
    · rintro i H7 hi ⟨⟨xs, es, x1, x2, x3, x4⟩, C7, E7, R7, U7, D7⟩
      have hi : i < 8 := hi
      refine ⟨rfl, ?_⟩
      walk_at "r"
      rename_i q hq
      have nqd := D7.ne_d hq
      refine go ⟨d, sc, .ref q, _, rfl, D7.new hq, Or.inl (SqL.of upd_same), by decide, by decide, by intro z; exact nqd (by injection z), fun v H8 hv F8 D8 => ?_⟩
      obtain ⟨m, rfl, m0, m1⟩ : ∃ c : Int, v = .int c ∧ 0 ≤ c ∧ c ≤ 100 := by
        simp only [List.mem_cons, List.not_mem_nil, or_false] at hv
        rcases hv with h | h | h | h | h | h | h | h <;> exact ⟨_, h, by omega, by omega⟩
      have F8 := (Fr.new hq).trans F8
      walk_at "r"
      refine go ⟨d, sc, nl, ns, m, 8, rfl, D8, R7.f F8, by omega, by omega, by omega, fun v9 e9 H9 a9 dp9 ok9 F9 D9 => ?_⟩
      have F9 := F8.trans F9
      have x9 := F9.md _ _ x1 (by simp [Cd'])
      have Fx := Fr.putL (S := [C]) (o := .lst (xs ++ [v9])) (by simp) x9
      refine ⟨_, x9, by show _ < 16777216; omega, ⟨_, es ++ [e9], upd_same, ?_, ?_, by simp; omega⟩, (C7.f F9 (by simp [cnd])).f Fx (by simp [Cc]), (E7.f F9 (by simp [exd])).f Fx (by simp [Ce]), ⟨by rw [upd_ne Cn]; exact (R7.f F9).1, nld⟩, ⟨by rw [upd_ne Cu]; exact (U7.f F9 (by simp [nud])).1, U7.2⟩, D9.put Cd' Cs⟩
      · rw [List.map_append]
        exact Das.app ((x2.f F9).f Fx) (.cons (a9.f Fx) .nil)
      · intro e he
        rcases List.mem_append.mp he with h | h
        · exact x3 e h
        · rw [List.mem_singleton.mp h]; exact ⟨dp9, ok9⟩
    rintro H7 ⟨⟨zs, es, z1, z2, z3, z4⟩, ⟨ys, cs, y1, y2, y3, y4⟩, E7, R7, U7, D7⟩
    have z4 : zs.length ≤ 8 := z4
    walk_at "r"
    refine ⟨_, _, _, _, rfl, rfl, y1, z1, by show _ ≤ 16777216; omega, ?_⟩
    have Fy := Fr.putL (S := [cn]) (o := .lst (ys ++ zs)) (by simp) y1
    have C8 : Conds K (upd H7 cn (.lst (ys ++ zs))) cn (· ∈ ns) 100 := by
      refine ⟨_, cs ++ es, upd_same, ?_, ?_, by rw [List.length_append]; omega⟩
      · rw [List.map_append]
        exact Das.app (y2.f Fy) (z2.f Fy)
      · intro e he
        rcases List.mem_append.mp he with h | h
        · exact y3 e h
        · exact z3 e h
    have E8 := E7.f Fy (by simp [cne])
    have R8 : Row (upd H7 cn (.lst (ys ++ zs))) nl d ns := ⟨Fy.md _ _ R7.1 (by simp [cnn]), nld⟩
    have U8 := U7.f Fy (by simp [cnu])
    have D8 : Dr (upd H7 cn (.lst (ys ++ zs))) d sc := D7.put cnd cns
    generalize upd H7 cn (.lst (ys ++ zs)) = H8 at C8 E8 R8 U8 D8 ⊢
    clear Fy y1 y2 y3 y4 z1 z2 z3 z4 E7 R7 U7 D7 C6 E6 R6 U6 D6
    walk_at "r"
    refine go ⟨d, sc, u, us, rfl, D8, U8, by omega, nud, nus, fun sp us' H9 _ _ _ F9 D9 => ?_⟩
    have C9 := C8.f F9 (by simp [cnd, cnu.symm])
    have E9 := E8.f F9 (by simp [exd, exu.symm])
    have N9 := F9.md _ _ R8.1 (by simp [nld, nlu.symm])
    clear C8 E8 R8 U8 D8 F9
    walk_at "r"
    rename_i q hq
    have nnq : nl ≠ q := ne_of_none N9 hq
    refine ⟨nl, q, _, _, rfl, rfl, by rw [upd_ne nnq]; exact N9, upd_same, by rw [List.length_map]; show _ + 1 ≤ 16777216; omega, fun q2 hq2 => ?_⟩
    walk_at "r"
    have D9' := (D9.new (o := .lst [.str sp]) hq)
    have G9 := (Fr.new (S := [d]) (o := .lst [.str sp]) hq).trans (Fr.new (o := .lst (ns.map V.str ++ [.str sp])) hq2)
    refine go ⟨d, sc, q2, ns ++ [sp], rfl, D9'.new hq2, ⟨by rw [upd_same]; simp, D9'.ne_d hq2⟩, by rw [List.length_append]; show _ + 1 ≤ _; omega, fun h1 k1 H10 hh1 e1 S1 kn1 l1 F10 D10 => ?_⟩
    have hh1' := G9.fresh hh1 (by simp; exact (D9'.new hq2).ne_d hh1)
    have F10 := G9.trans F10
    have h1d := D9.ne_d hh1'
    have h1n : nl ≠ h1 := ne_of_none N9 hh1'
    have h1c : cn ≠ h1 := by obtain ⟨xs, es, x1, _⟩ := C9; exact ne_of_none x1 hh1'
    have h1e : ex ≠ h1 := by obtain ⟨xs, es, x1, _⟩ := E9; exact ne_of_none x1 hh1'
    have C10 := C9.f F10 (by simp [cnd])
    have E10 := E9.f F10 (by simp [exd])
    have N10 := F10.md _ _ N9 (by simp [nld])
    clear C9 E9 N9 D9 D9' G9 F10
    walk_at "r"
    rename_i q3 hq3
    have nnq3 : nl ≠ q3 := ne_of_none N10 hq3
    refine ⟨nl, q3, _, _, rfl, rfl, by rw [upd_ne nnq3]; exact N10, upd_same, by rw [List.length_map]; show _ + 1 ≤ 16777216; omega, fun q4 hq4 => ?_⟩
    walk_at "r"
    have D10' := (D10.new (o := .lst [.str sp]) hq3)
    have G10 := (Fr.new (S := [d]) (o := .lst [.str sp]) hq3).trans (Fr.new (o := .lst (ns.map V.str ++ [.str sp])) hq4)
    refine go ⟨d, sc, q4, ns ++ [sp], rfl, D10'.new hq4, ⟨by rw [upd_same]; simp, D10'.ne_d hq4⟩, by rw [List.length_append]; show _ + 1 ≤ _; omega, fun h2 k2 H11 hh2 e2 S2 kn2 l2 F11 D11 => ?_⟩
    have hh2' := G10.fresh hh2 (by simp; exact (D10'.new hq4).ne_d hh2)
    have F11 := G10.trans F11
    have h2d := D10.ne_d hh2'
    have h2n : nl ≠ h2 := ne_of_none N10 hh2'
    have h2c : cn ≠ h2 := by obtain ⟨xs, es, x1, _⟩ := C10; exact ne_of_none x1 hh2'
    have h2e : ex ≠ h2 := by obtain ⟨xs, es, x1, _⟩ := E10; exact ne_of_none x1 hh2'
    have h12 : h1 ≠ h2 := ne_of_none e1 hh2'
    have C11 := C10.f F11 (by simp [cnd])
    have E11 := E10.f F11 (by simp [exd])
    have N11 := F11.md _ _ N10 (by simp [nld])
    have e11 := F11.md _ _ e1 (by simp [h1d])
    clear C10 E10 N10 D10 D10' G10 F11
    walk_at "r"
    have W11 : Wd K H11 h1 h2 ex cn nl ns k1 k2 0 := ⟨e11, e2, S1, S2, fun s hs => kn1 s (List.mem_append_left _ hs), fun s hs => kn2 s (List.mem_append_left _ hs), by rw [List.length_append] at l1; simp at l1; omega, by rw [List.length_append] at l2; simp at l2; omega,
      E11.imp (fun _ z => z) (by decide), C11, N11⟩
    clear e11 e2 S1 S2 kn1 kn2 l1 l2 E11 C11 N11
    refine for_range (fun i σ H' => ∃ (v9 v10 v11 : Option V) (k1 k2 : List (Key × V)), σ = [some (.ref a), some (.ref d), some (.ref u), some (.ref nl), some (.ref ex), some (.ref cn), some (.str sp), some (.ref h1), some (.ref h2), v9, v10, v11] ∧ Wd K H' h1 h2 ex cn nl ns k1 k2 (100 * i))
      ⟨none, none, none, k1, k2, rfl, W11⟩ ?_ ?_
    · rintro i σ H12 hi ⟨v9, v10, v11, k1, k2, rfl, W⟩
      have hi : i < 2 := hi
      have l1 := W.l1
      have l2 := W.l2
      walk_at "s"
      walk_at "r"
      refine go ⟨ex, cn, h1, k1, rfl, W.E.imp W.n1 (Nat.le_refl _), W.C.imp W.n1 (Nat.le_refl _), W.e1, W.s1, by omega, fun H13 F13 => ?_⟩
      have W := W.f F13
      walk_at "r"
      refine go ⟨ex, cn, h2, k2, rfl, W.E.imp W.n2 (Nat.le_refl _), W.C.imp W.n2 (Nat.le_refl _), W.e2, W.s2, by omega, fun H14 F14 => ?_⟩
      have W := W.f F14
      walk_at "r"
      refine ⟨⟨_, SqL.of W.n⟩, for_list (K := K) (fun j σ H' => ∃ (v10 v11 : Option V) (k1 k2 : List (Key × V)), σ = [some (.ref a), some (.ref d), some (.ref u), some (.ref nl), some (.ref ex), some (.ref cn), some (.str sp), some (.ref h1), some (.ref h2), some (.int (0 + (i : Int))), v10, v11] ∧ Wd K H' h1 h2 ex cn nl ns k1 k2 (100 * i + 2 * j))
        ⟨v10, v11, k1, k2, rfl, W⟩ (fun j σ H' _ ⟨_, _, _, _, _, W⟩ => SqL.of W.n) ?_ ?_⟩
      · rintro j x σ H15 hx ⟨v10, v11, k1, k2, rfl, W⟩
        obtain ⟨s1, rfl, hs1⟩ := mem_str (List.mem_of_getElem? hx)
        have hj : j < ns.length := by
          have := (List.getElem?_eq_some_iff.mp hx).1
          rwa [List.length_map] at this
        have l1 := W.l1
        have l2 := W.l2
        obtain ⟨i1, q1⟩ := W.n1 s1 hs1
        obtain ⟨i2, q2⟩ := W.n2 s1 hs1
        walk_at "r"
        refine ⟨_, _, rfl, dget_s W.e2 q2, ?_⟩
        walk_at "r"
        refine ⟨_, _, rfl, dget_s W.e1 q1, ?_⟩
        walk_at "r"
        refine ⟨_, _, rfl, dput_s W.e1 (by show _ < 16777216; omega), ?_⟩
        have W := W.put1 h12.symm h1e h1c h1n s1 (i2 - i1 - 1)
        walk_at "r"
        refine ⟨_, _, rfl, dget_s W.e2 q2, ?_⟩
        walk_at "r"
        refine ⟨_, _, rfl, dput_s W.e2 (by show _ < 16777216; omega), ?_⟩
        exact ⟨_, _, _, _, rfl, W.put2 h12 h2e h2c h2n s1 (7 - i2)⟩
      · rintro σ H15 ⟨v10, v11, k1, k2, rfl, W⟩
        rw [List.length_map] at W
        refine ⟨_, _, _, k1, k2, rfl, ⟨W.e1, W.e2, W.s1, W.s2, W.n1, W.n2, by have := W.l1; omega, by have := W.l2; omega, W.E, W.C, W.n⟩⟩
    · rintro σ H12 ⟨v9, v10, v11, k1, k2, rfl, W⟩
      have W : Wd K H12 h1 h2 ex cn nl ns k1 k2 200 := W
      have l1 := W.l1
      walk_at "r"
      exact go ⟨ex, cn, h1, k1, rfl, W.E.imp W.n1 (Nat.le_refl _), W.C.imp W.n1 (Nat.le_refl _), W.e1, W.s1, by omega, fun H13 _ => k H13⟩
end

theorem all_mk {l : PySem.W.OpenLaw} {w : World} {K : PySem.W.Frag} {h : Heap} {mg : Str → Option Value} {fa : Addr} (X : K.In h) (G : h.Ns mainGlobals mg) (hfa : mg "law" = some (.ref fa))
    {f0 : Addr} {od0 an0 : Option Addr} {sl0 : Array (Option Value)} {oc0 kV0 dc0 pm0 cd0 ct0 : Value}
    (a0 : PySem.W.nsIn K mainGlobals "value_of" = some (some (.ref f0))) (l0 : K.lookup f0 = some ⟨oc0, od0, .func (PySem.W.fnOf "value_of" "value_of" (defArgs s_value_of) (defBody s_value_of) (defScope s_value_of) .none kV0 dc0 pm0 an0 cd0 ct0), sl0⟩) (c0 : PySem.W.codeIn K cd0 "value_of" = true) (k0 : PySem.W.keepIn K (.ref f0) = true)
    {f1 : Addr} {od1 an1 : Option Addr} {sl1 : Array (Option Value)} {oc1 kV1 dc1 pm1 cd1 ct1 : Value}
    (a1 : PySem.W.nsIn K mainGlobals "test_holds" = some (some (.ref f1))) (l1 : K.lookup f1 = some ⟨oc1, od1, .func (PySem.W.fnOf "test_holds" "test_holds" (defArgs s_test_holds) (defBody s_test_holds) (defScope s_test_holds) .none kV1 dc1 pm1 an1 cd1 ct1), sl1⟩) (c1 : PySem.W.codeIn K cd1 "test_holds" = true) (k1 : PySem.W.keepIn K (.ref f1) = true)
    {f2 : Addr} {od2 an2 : Option Addr} {sl2 : Array (Option Value)} {oc2 kV2 dc2 pm2 cd2 ct2 : Value}
    (a2 : PySem.W.nsIn K mainGlobals "holds" = some (some (.ref f2))) (l2 : K.lookup f2 = some ⟨oc2, od2, .func (PySem.W.fnOf "holds" "holds" (defArgs s_holds) (defBody s_holds) (defScope s_holds) .none kV2 dc2 pm2 an2 cd2 ct2), sl2⟩) (c2 : PySem.W.codeIn K cd2 "holds" = true) (k2 : PySem.W.keepIn K (.ref f2) = true)
    {f3 : Addr} {od3 an3 : Option Addr} {sl3 : Array (Option Value)} {oc3 kV3 dc3 pm3 cd3 ct3 : Value}
    (a3 : PySem.W.nsIn K mainGlobals "_law_begin" = some (some (.ref f3))) (l3 : K.lookup f3 = some ⟨oc3, od3, .func (PySem.W.fnOf "_law_begin" "_law_begin" (defArgs s__law_begin) (defBody s__law_begin) (defScope s__law_begin) .none kV3 dc3 pm3 an3 cd3 ct3), sl3⟩) (c3 : PySem.W.codeIn K cd3 "_law_begin" = true) (k3 : PySem.W.keepIn K (.ref f3) = true)
    {f4 : Addr} {od4 an4 : Option Addr} {sl4 : Array (Option Value)} {oc4 kV4 dc4 pm4 cd4 ct4 : Value}
    (a4 : PySem.W.nsIn K mainGlobals "_law_draw" = some (some (.ref f4))) (l4 : K.lookup f4 = some ⟨oc4, od4, .func (PySem.W.fnOf "_law_draw" "_law_draw" (defArgs s__law_draw) (defBody s__law_draw) (defScope s__law_draw) .none kV4 dc4 pm4 an4 cd4 ct4), sl4⟩) (c4 : PySem.W.codeIn K cd4 "_law_draw" = true) (k4 : PySem.W.keepIn K (.ref f4) = true)
    {f5 : Addr} {od5 an5 : Option Addr} {sl5 : Array (Option Value)} {oc5 kV5 dc5 pm5 cd5 ct5 : Value}
    (a5 : PySem.W.nsIn K mainGlobals "_law_pick" = some (some (.ref f5))) (l5 : K.lookup f5 = some ⟨oc5, od5, .func (PySem.W.fnOf "_law_pick" "_law_pick" (defArgs s__law_pick) (defBody s__law_pick) (defScope s__law_pick) .none kV5 dc5 pm5 an5 cd5 ct5), sl5⟩) (c5 : PySem.W.codeIn K cd5 "_law_pick" = true) (k5 : PySem.W.keepIn K (.ref f5) = true)
    {f6 : Addr} {od6 an6 : Option Addr} {sl6 : Array (Option Value)} {oc6 kV6 dc6 pm6 cd6 ct6 : Value}
    (a6 : PySem.W.nsIn K mainGlobals "_law_is_int" = some (some (.ref f6))) (l6 : K.lookup f6 = some ⟨oc6, od6, .func (PySem.W.fnOf "_law_is_int" "_law_is_int" (defArgs s__law_is_int) (defBody s__law_is_int) (defScope s__law_is_int) .none kV6 dc6 pm6 an6 cd6 ct6), sl6⟩) (c6 : PySem.W.codeIn K cd6 "_law_is_int" = true) (k6 : PySem.W.keepIn K (.ref f6) = true)
    {f7 : Addr} {od7 an7 : Option Addr} {sl7 : Array (Option Value)} {oc7 kV7 dc7 pm7 cd7 ct7 : Value}
    (a7 : PySem.W.nsIn K mainGlobals "_law_same" = some (some (.ref f7))) (l7 : K.lookup f7 = some ⟨oc7, od7, .func (PySem.W.fnOf "_law_same" "_law_same" (defArgs s__law_same) (defBody s__law_same) (defScope s__law_same) .none kV7 dc7 pm7 an7 cd7 ct7), sl7⟩) (c7 : PySem.W.codeIn K cd7 "_law_same" = true) (k7 : PySem.W.keepIn K (.ref f7) = true)
    {f8 : Addr} {od8 an8 : Option Addr} {sl8 : Array (Option Value)} {oc8 kV8 dc8 pm8 cd8 ct8 : Value}
    (a8 : PySem.W.nsIn K mainGlobals "_law_is_reserved" = some (some (.ref f8))) (l8 : K.lookup f8 = some ⟨oc8, od8, .func (PySem.W.fnOf "_law_is_reserved" "_law_is_reserved" (defArgs s__law_is_reserved) (defBody s__law_is_reserved) (defScope s__law_is_reserved) .none kV8 dc8 pm8 an8 cd8 ct8), sl8⟩) (c8 : PySem.W.codeIn K cd8 "_law_is_reserved" = true) (k8 : PySem.W.keepIn K (.ref f8) = true)
    {f9 : Addr} {od9 an9 : Option Addr} {sl9 : Array (Option Value)} {oc9 kV9 dc9 pm9 cd9 ct9 : Value}
    (a9 : PySem.W.nsIn K mainGlobals "_law_name" = some (some (.ref f9))) (l9 : K.lookup f9 = some ⟨oc9, od9, .func (PySem.W.fnOf "_law_name" "_law_name" (defArgs s__law_name) (defBody s__law_name) (defScope s__law_name) .none kV9 dc9 pm9 an9 cd9 ct9), sl9⟩) (c9 : PySem.W.codeIn K cd9 "_law_name" = true) (k9 : PySem.W.keepIn K (.ref f9) = true)
    {f10 : Addr} {od10 an10 : Option Addr} {sl10 : Array (Option Value)} {oc10 kV10 dc10 pm10 cd10 ct10 : Value}
    (a10 : PySem.W.nsIn K mainGlobals "_law_value" = some (some (.ref f10))) (l10 : K.lookup f10 = some ⟨oc10, od10, .func (PySem.W.fnOf "_law_value" "_law_value" (defArgs s__law_value) (defBody s__law_value) (defScope s__law_value) .none kV10 dc10 pm10 an10 cd10 ct10), sl10⟩) (c10 : PySem.W.codeIn K cd10 "_law_value" = true) (k10 : PySem.W.keepIn K (.ref f10) = true)
    {f11 : Addr} {od11 an11 : Option Addr} {sl11 : Array (Option Value)} {oc11 kV11 dc11 pm11 cd11 ct11 : Value}
    (a11 : PySem.W.nsIn K mainGlobals "_law_holds" = some (some (.ref f11))) (l11 : K.lookup f11 = some ⟨oc11, od11, .func (PySem.W.fnOf "_law_holds" "_law_holds" (defArgs s__law_holds) (defBody s__law_holds) (defScope s__law_holds) .none kV11 dc11 pm11 an11 cd11 ct11), sl11⟩) (c11 : PySem.W.codeIn K cd11 "_law_holds" = true) (k11 : PySem.W.keepIn K (.ref f11) = true)
    {f12 : Addr} {od12 an12 : Option Addr} {sl12 : Array (Option Value)} {oc12 kV12 dc12 pm12 cd12 ct12 : Value}
    (a12 : PySem.W.nsIn K mainGlobals "_law_grown_expr" = some (some (.ref f12))) (l12 : K.lookup f12 = some ⟨oc12, od12, .func (PySem.W.fnOf "_law_grown_expr" "_law_grown_expr" (defArgs s__law_grown_expr) (defBody s__law_grown_expr) (defScope s__law_grown_expr) .none kV12 dc12 pm12 an12 cd12 ct12), sl12⟩) (c12 : PySem.W.codeIn K cd12 "_law_grown_expr" = true) (k12 : PySem.W.keepIn K (.ref f12) = true)
    {f13 : Addr} {od13 an13 : Option Addr} {sl13 : Array (Option Value)} {oc13 kV13 dc13 pm13 cd13 ct13 : Value}
    (a13 : PySem.W.nsIn K mainGlobals "_law_grown_cond" = some (some (.ref f13))) (l13 : K.lookup f13 = some ⟨oc13, od13, .func (PySem.W.fnOf "_law_grown_cond" "_law_grown_cond" (defArgs s__law_grown_cond) (defBody s__law_grown_cond) (defScope s__law_grown_cond) .none kV13 dc13 pm13 an13 cd13 ct13), sl13⟩) (c13 : PySem.W.codeIn K cd13 "_law_grown_cond" = true) (k13 : PySem.W.keepIn K (.ref f13) = true)
    {f14 : Addr} {od14 an14 : Option Addr} {sl14 : Array (Option Value)} {oc14 kV14 dc14 pm14 cd14 ct14 : Value}
    (a14 : PySem.W.nsIn K mainGlobals "_law_each_sign" = some (some (.ref f14))) (l14 : K.lookup f14 = some ⟨oc14, od14, .func (PySem.W.fnOf "_law_each_sign" "_law_each_sign" (defArgs s__law_each_sign) (defBody s__law_each_sign) (defScope s__law_each_sign) .none kV14 dc14 pm14 an14 cd14 ct14), sl14⟩) (c14 : PySem.W.codeIn K cd14 "_law_each_sign" = true) (k14 : PySem.W.keepIn K (.ref f14) = true)
    {f15 : Addr} {od15 an15 : Option Addr} {sl15 : Array (Option Value)} {oc15 kV15 dc15 pm15 cd15 ct15 : Value}
    (a15 : PySem.W.nsIn K mainGlobals "_law_drawn_values" = some (some (.ref f15))) (l15 : K.lookup f15 = some ⟨oc15, od15, .func (PySem.W.fnOf "_law_drawn_values" "_law_drawn_values" (defArgs s__law_drawn_values) (defBody s__law_drawn_values) (defScope s__law_drawn_values) .none kV15 dc15 pm15 an15 cd15 ct15), sl15⟩) (c15 : PySem.W.codeIn K cd15 "_law_drawn_values" = true) (k15 : PySem.W.keepIn K (.ref f15) = true)
    {f16 : Addr} {od16 an16 : Option Addr} {sl16 : Array (Option Value)} {oc16 kV16 dc16 pm16 cd16 ct16 : Value}
    (a16 : PySem.W.nsIn K mainGlobals "_law_agrees" = some (some (.ref f16))) (l16 : K.lookup f16 = some ⟨oc16, od16, .func (PySem.W.fnOf "_law_agrees" "_law_agrees" (defArgs s__law_agrees) (defBody s__law_agrees) (defScope s__law_agrees) .none kV16 dc16 pm16 an16 cd16 ct16), sl16⟩) (c16 : PySem.W.codeIn K cd16 "_law_agrees" = true) (k16 : PySem.W.keepIn K (.ref f16) = true)
    {f17 : Addr} {od17 an17 : Option Addr} {sl17 : Array (Option Value)} {oc17 kV17 dc17 pm17 cd17 ct17 : Value}
    (a17 : PySem.W.nsIn K mainGlobals "law" = some (some (.ref f17))) (l17 : K.lookup f17 = some ⟨oc17, od17, .func (PySem.W.fnOf "law" "law" (defArgs s_law) (defBody s_law) (defScope s_law) .none kV17 dc17 pm17 an17 cd17 ct17), sl17⟩) (c17 : PySem.W.codeIn K cd17 "law" = true) (k17 : PySem.W.keepIn K (.ref f17) = true)
    (z0 : PySem.W.nsIn K mainGlobals "abs" = some none)
    (z1 : PySem.W.nsIn K mainGlobals "bool" = some none)
    (z2 : PySem.W.nsIn K mainGlobals "int" = some none)
    (z3 : PySem.W.nsIn K mainGlobals "isinstance" = some none)
    (z4 : PySem.W.nsIn K mainGlobals "len" = some none)
    (z5 : PySem.W.nsIn K mainGlobals "range" = some none)
    (z6 : PySem.W.nsIn K mainGlobals "str" = some none)
    (z7 : PySem.W.nsIn K mainGlobals "tuple" = some none)
    : ∃ fd : FuncData, (∀ (s : Shared) (v : Value), BindsTo s fd ⟨[v], []⟩ [("script", v)]) ∧ ∀ base : Heap, K.In base → base.Ns mainGlobals mg → FnOk l.prog w K mg base CX0 13 fa fd ["script"] (spLaw K) := by
  have T : Top K mg := {
    b_abs := PySem.W.mg_none_of X G z0
    b_bool := PySem.W.mg_none_of X G z1
    b_int := PySem.W.mg_none_of X G z2
    b_isinstance := PySem.W.mg_none_of X G z3
    b_len := PySem.W.mg_none_of X G z4
    b_range := PySem.W.mg_none_of X G z5
    b_str := PySem.W.mg_none_of X G z6
    b_tuple := PySem.W.mg_none_of X G z7
    d_value_of := df_mk X G a0 l0 c0 k0 (fun _ _ _ _ _ _ us hl => match us, hl with | [_, _], _ => rfl)
    d_test_holds := df_mk X G a1 l1 c1 k1 (fun _ _ _ _ _ _ us hl => match us, hl with | [_, _, _], _ => rfl)
    d_holds := df_mk X G a2 l2 c2 k2 (fun _ _ _ _ _ _ us hl => match us, hl with | [_, _], _ => rfl)
    d__law_begin := df_mk X G a3 l3 c3 k3 (fun _ _ _ _ _ _ us hl => match us, hl with | [_], _ => rfl)
    d__law_draw := df_mk X G a4 l4 c4 k4 (fun _ _ _ _ _ _ us hl => match us, hl with | [_, _], _ => rfl)
    d__law_pick := df_mk X G a5 l5 c5 k5 (fun _ _ _ _ _ _ us hl => match us, hl with | [_, _], _ => rfl)
    d__law_is_int := df_mk X G a6 l6 c6 k6 (fun _ _ _ _ _ _ us hl => match us, hl with | [_], _ => rfl)
    d__law_same := df_mk X G a7 l7 c7 k7 (fun _ _ _ _ _ _ us hl => match us, hl with | [_, _], _ => rfl)
    d__law_is_reserved := df_mk X G a8 l8 c8 k8 (fun _ _ _ _ _ _ us hl => match us, hl with | [_], _ => rfl)
    d__law_name := df_mk X G a9 l9 c9 k9 (fun _ _ _ _ _ _ us hl => match us, hl with | [_, _], _ => rfl)
    d__law_value := df_mk X G a10 l10 c10 k10 (fun _ _ _ _ _ _ us hl => match us, hl with | [_, _], _ => rfl)
    d__law_holds := df_mk X G a11 l11 c11 k11 (fun _ _ _ _ _ _ us hl => match us, hl with | [_, _], _ => rfl)
    d__law_grown_expr := df_mk X G a12 l12 c12 k12 (fun _ _ _ _ _ _ us hl => match us, hl with | [_, _, _, _], _ => rfl)
    d__law_grown_cond := df_mk X G a13 l13 c13 k13 (fun _ _ _ _ _ _ us hl => match us, hl with | [_, _, _, _], _ => rfl)
    d__law_each_sign := df_mk X G a14 l14 c14 k14 (fun _ _ _ _ _ _ us hl => match us, hl with | [_, _], _ => rfl)
    d__law_drawn_values := df_mk X G a15 l15 c15 k15 (fun _ _ _ _ _ _ us hl => match us, hl with | [_, _], _ => rfl)
    d__law_agrees := df_mk X G a16 l16 c16 k16 (fun _ _ _ _ _ _ us hl => match us, hl with | [_, _, _], _ => rfl)
    d_law := df_mk X G a17 l17 c17 k17 (fun _ _ _ _ _ _ us hl => match us, hl with | [_], _ => rfl)
  }
  have e := hfa.symm.trans (PySem.W.mg_of X G a17)
  cases e
  refine ⟨PySem.W.fnOf "law" "law" (defArgs s_law) (defBody s_law) (defScope s_law) .none kV17 dc17 pm17 an17 cd17 ct17, fun s v => .of_eq rfl, fun base _ _ => ?_⟩
  exact ok_law T (fun_mk (st := s_law) l17 c17 k17)
theorem walk {l : PySem.W.OpenLaw} {q : Program} {loose : List Str} {XP : (Str → Option Value) → Heap → Prop} {YP : World → Heap → Prop} {d : DefRec} {K : Params → PySem.W.Frag} (hn : l.most = some 63) (hdf : d.params.defaults = [])
    (hY : ∀ (w : World) (h : Heap), YP w h → (K w.params).In h)
    (F : ∀ (w : World) (mg : Str → Option Value) (fa : Addr) (h : Heap), (K w.params).In h → h.Ns mainGlobals mg → mg d.name = some (.ref fa) →
      ∃ fd : FuncData, (∀ (s : Shared) (u : Value), BindsTo s fd ⟨[u], []⟩ [("script", u)]) ∧ ∀ base : Heap, (K w.params).In base → base.Ns mainGlobals mg → FnOk l.prog w (K w.params) mg base CX0 13 fa fd ["script"] (spLaw (K w.params))) :
    PySem.W.WalkO q loose XP YP l.row.toRowW d [] (fun f vs => PySem.call f vs) :=
  L2.walk_of (n := 63) (k := 13) (x := "script") (CX := fun _ => CX0) (sp := fun w => spLaw (K w.params)) hn (by decide) hdf ⟨rfl, by decide, by decide⟩ hY F (fun _ _ a ns hl _ hS => ⟨a, ns, rfl, hS, hl, fun _ => rfl⟩) fun _ _ _ _ _ z => z
end Lw

open PySem PySem.W PyProof.Rows in
set_option maxRecDepth 100000 in
set_option maxHeartbeats 0 in
theorem PySem.Challenge.cw_extrasmeet_k12_values_and_tests_holds : PySem.Challenge.rw_extrasmeet_k12_values_and_tests.Holds := by
  w_on; o_law; k_head; (case hw => w_witness2)
  k_fill
  refine Lw.walk (l := PySem.Challenge.rw_extrasmeet_k12_values_and_tests) rfl rfl (fun w h Y => PySem.W.kIn_of Y) ?F
  case F =>
    intro w mg fa h KX G hmg
    refine' Lw.all_mk KX G hmg ?a0 ?l0 ?c0 ?k0 ?a1 ?l1 ?c1 ?k1 ?a2 ?l2 ?c2 ?k2 ?a3 ?l3 ?c3 ?k3 ?a4 ?l4 ?c4 ?k4 ?a5 ?l5 ?c5 ?k5 ?a6 ?l6 ?c6 ?k6 ?a7 ?l7 ?c7 ?k7 ?a8 ?l8 ?c8 ?k8 ?a9 ?l9 ?c9 ?k9 ?a10 ?l10 ?c10 ?k10 ?a11 ?l11 ?c11 ?k11 ?a12 ?l12 ?c12 ?k12 ?a13 ?l13 ?c13 ?k13 ?a14 ?l14 ?c14 ?k14 ?a15 ?l15 ?c15 ?k15 ?a16 ?l16 ?c16 ?k16 ?a17 ?l17 ?c17 ?k17 ?z0 ?z1 ?z2 ?z3 ?z4 ?z5 ?z6 ?z7
    (case a0 => k_is)
    (case l0 => k_is)
    (case c0 => k_is)
    (case k0 => k_is)
    (case a1 => k_is)
    (case l1 => k_is)
    (case c1 => k_is)
    (case k1 => k_is)
    (case a2 => k_is)
    (case l2 => k_is)
    (case c2 => k_is)
    (case k2 => k_is)
    (case a3 => k_is)
    (case l3 => k_is)
    (case c3 => k_is)
    (case k3 => k_is)
    (case a4 => k_is)
    (case l4 => k_is)
    (case c4 => k_is)
    (case k4 => k_is)
    (case a5 => k_is)
    (case l5 => k_is)
    (case c5 => k_is)
    (case k5 => k_is)
    (case a6 => k_is)
    (case l6 => k_is)
    (case c6 => k_is)
    (case k6 => k_is)
    (case a7 => k_is)
    (case l7 => k_is)
    (case c7 => k_is)
    (case k7 => k_is)
    (case a8 => k_is)
    (case l8 => k_is)
    (case c8 => k_is)
    (case k8 => k_is)
    (case a9 => k_is)
    (case l9 => k_is)
    (case c9 => k_is)
    (case k9 => k_is)
    (case a10 => k_is)
    (case l10 => k_is)
    (case c10 => k_is)
    (case k10 => k_is)
    (case a11 => k_is)
    (case l11 => k_is)
    (case c11 => k_is)
    (case k11 => k_is)
    (case a12 => k_is)
    (case l12 => k_is)
    (case c12 => k_is)
    (case k12 => k_is)
    (case a13 => k_is)
    (case l13 => k_is)
    (case c13 => k_is)
    (case k13 => k_is)
    (case a14 => k_is)
    (case l14 => k_is)
    (case c14 => k_is)
    (case k14 => k_is)
    (case a15 => k_is)
    (case l15 => k_is)
    (case c15 => k_is)
    (case k15 => k_is)
    (case a16 => k_is)
    (case l16 => k_is)
    (case c16 => k_is)
    (case k16 => k_is)
    (case a17 => k_is)
    (case l17 => k_is)
    (case c17 => k_is)
    (case k17 => k_is)
    (case z0 => k_is)
    (case z1 => k_is)
    (case z2 => k_is)
    (case z3 => k_is)
    (case z4 => k_is)
    (case z5 => k_is)
    (case z6 => k_is)
    (case z7 => k_is)
