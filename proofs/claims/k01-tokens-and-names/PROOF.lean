import PyProof.Rows.All
import Wide.All
import OpenK.AllK
import Wide.FinOn
import HandS.ForMost
import HandS.Wide
import HandS.IsInst
import HandS.TupAny
import HandS.DictComp
import HandS.Codes
import HandS.Walk
import PySem.Challenge.RW_extrasmeet_k01_tokens_and_names
set_option Elab.async false
set_option linter.all false
set_option maxRecDepth 100000
set_option maxHeartbeats 4000000
namespace G
open PySem PySem.Spec PyProof.Rows L2

/-! ### a def that may be called by its name -/
structure Df (K : PySem.W.Frag) (mg : Str → Option Value) (x : Str) (st : Stmt) (ps : List Str) : Prop where
  ex : ∃ (f : Addr) (fd : FuncData), Fun K x x st f fd ∧ mg x = some (.ref f) ∧ PySem.W.keepIn K (.ref f) = true ∧ Binds K fd ps []
structure Cal (P : Program) (w : World) (K : PySem.W.Frag) (mg : Str → Option Value) (base : Heap) (k : Nat) (x : Str) (sp : Sp) : Prop where
  ex : ∃ (f : Addr) (fd : FuncData) (ps : List Str), FnOk P w K mg base CX0 k f fd ps sp ∧ mg x = some (.ref f) ∧ PySem.W.keepIn K (.ref f) = true ∧ Binds K fd ps []
theorem Cal.mono {P : Program} {w : World} {K : PySem.W.Frag} {mg : Str → Option Value} {base : Heap} {j k : Nat} {x : Str} {sp : Sp} (c : Cal P w K mg base j x sp) (h : j ≤ k) : Cal P w K mg base k x sp := by
  obtain ⟨f, fd, ps, F, r⟩ := c.ex
  exact ⟨f, fd, ps, F.mono h, r⟩
theorem Cal.imp {P : Program} {w : World} {K : PySem.W.Frag} {mg : Str → Option Value} {base : Heap} {k : Nat} {x : Str} {sp sp' : Sp} (c : Cal P w K mg base k x sp) (h : ∀ vs H Q E, sp' vs H Q E → sp vs H Q E) : Cal P w K mg base k x sp' := by
  obtain ⟨f, fd, ps, F, r⟩ := c.ex
  exact ⟨f, fd, ps, F.imp h, r⟩
section
variable {P : Program} {w : World} {K : PySem.W.Frag} {mg : Str → Option Value} {base : Heap}
theorem cal {x : Str} {st : Stmt} {N ps : List Str} {k : Nat} {sp : Sp} (D : Df K mg x st ps) (S : FnScope N ps (defScope st)) (len : ∀ vs H Q E, sp vs H Q E → vs.length = ps.length)
    (hbody : ∀ (f : Addr) (cdv : Value) (A : Around) (outer : List Env) (s : Shared) (H : Hp) (vs : List V) (Q : VK) (E : XK), Room k (A.deeper (envOfC x (defScope st) s.heap.objs.size f cdv)) → sp vs H Q E →
      ∃ t, PSs (cxOf CX0 P w K mg base N x (defScope st) f cdv A outer s H E).nox (defBody st) t ∧ t { nx := fun _ H' => Q .non H', rt := Q } (start N vs) H) : Cal P w K mg base (k + 1) x sp := by
  obtain ⟨f, fd, F, hm, kp, b⟩ := D.ex
  exact ⟨f, fd, ps, F.ok S len (hbody f), hm, kp, b⟩
theorem df_mk {x : Str} {st : Stmt} {f : Addr} {ps : List Str} {oc : Value} {od an : Option Addr} {osl : Array (Option Value)} {kV doc pm cdv ct : Value} {h : Heap} (X : K.In h) (G : h.Ns mainGlobals mg)
    (a : PySem.W.nsIn K mainGlobals x = some (some (.ref f)))
    (l : K.lookup f = some ⟨oc, od, .func (PySem.W.fnOf x x (defArgs st) (defBody st) (defScope st) .none kV doc pm an cdv ct), osl⟩)
    (c : PySem.W.codeIn K cdv x = true) (k : PySem.W.keepIn K (.ref f) = true)
    (hb : ∀ (kV doc pm : Value) (an : Option Addr) (cdv ct : Value) (us : List Value), us.length = ps.length → bindArgs (PySem.W.fnOf x x (defArgs st) (defBody st) (defScope st) .none kV doc pm an cdv ct) ⟨us, []⟩ = pure (ps.zip us)) : Df K mg x st ps :=
  ⟨f, _, fun_mk l c k, PySem.W.mg_of X G a, k, (fun_mk l c k).binds hb⟩
end
section
variable {X : Cx} {k j : Nat} {x : Str} {sp : Sp} {p pos : Pos} {e : Expr} {es : List Expr} {t : TA}
/-- a call's promise, shut: the steps of a reading stop there -/
@[irreducible] def Go (p : Prop) : Prop := p
theorem go {p : Prop} (h : p) : Go p := by unfold Go; exact h
theorem Go.out {p : Prop} (h : Go p) : p := by unfold Go at h; exact h
def Gp (sp : Sp) : Sp := fun vs H Q E => Go (sp vs H Q E)
theorem pe_c (c : Cal X.prog X.w X.K X.mg X.base k x sp) (hr : Room j X.A) (hk : k ≤ j) (hg : Gl X x) (ha : PA X (e :: es) t)
    (hdb : (x == ("__debug__" : Str)) = false := by decide) (he : starEach (e :: es) X.env = (false, eval e X.env) :: starEach es X.env := by rfl) (hpl : (backTo pos (starEach es X.env)).any (·.1) = false := by rfl) :
    PE X (.Call (.Name x p) (e :: es) [] pos) (tCall (Gp sp) [] E0 t) := by
  obtain ⟨f, fd, ps, F, hm, kp, b⟩ := c.ex
  exact pe_call ((F.imp (sp' := Gp sp) fun _ _ _ _ h => Go.out h).mono (Nat.le_refl _)) (hr.mono hk) hg hm kp b .nil pass0 ha hdb he hpl
end

/-! ### the heap: what a call keeps -/
def Keep (H H' : Hp) : Prop := ∀ a xs, Rd H a (.tup xs) → Rd H' a (.tup xs)
/-- all but what stands at S is kept; tuples are kept -/
structure Fr (S : List Addr) (H H' : Hp) : Prop where
  md : ∀ a o, H a = some o → a ∉ S → H' a = some o
  kp : Keep H H'
theorem Keep.refl (H : Hp) : Keep H H := fun _ _ h => h
theorem Keep.trans {H H1 H2 : Hp} (a : Keep H H1) (b : Keep H1 H2) : Keep H H2 := fun p xs h => b p xs (a p xs h)
theorem Fr.refl {S : List Addr} (H : Hp) : Fr S H H := ⟨fun _ _ h _ => h, Keep.refl H⟩
theorem Fr.trans {S : List Addr} {H H1 H2 : Hp} (a : Fr S H H1) (b : Fr S H1 H2) : Fr S H H2 := ⟨fun p o h n => b.md p o (a.md p o h n) n, a.kp.trans b.kp⟩
theorem Fr.mono {S S' : List Addr} {H H1 : Hp} (a : Fr S H H1) (h : ∀ x, x ∈ S → x ∈ S') : Fr S' H H1 := ⟨fun p o e n => a.md p o e fun z => n (h p z), a.kp⟩
theorem Fr.nil {S : List Addr} {H H1 : Hp} (a : Fr [] H H1) : Fr S H H1 := a.mono fun _ z => absurd z (by simp)
theorem Fr.new {S : List Addr} {H : Hp} {p : Addr} {o : HO} (h : H p = none) : Fr S H (upd H p o) := by
  refine ⟨fun a u e _ => ?_, fun a xs e => ?_⟩
  · rw [upd_ne (ne_of_none e h)]; exact e
  · rcases e with e | ⟨ob, e⟩
    · exact .inl (by rw [upd_ne (ne_of_none e h)]; exact e)
    · exact .inr ⟨ob, by rw [upd_ne (ne_of_none e h)]; exact e⟩
/-- what stands at p (no tuple) is changed -/
theorem Fr.put {S : List Addr} {H : Hp} {p : Addr} {o : HO} (hp : p ∈ S) (m : Mut (H p)) : Fr S H (upd H p o) := by
  refine ⟨fun a u e n => ?_, fun a xs e => ?_⟩
  · rw [upd_ne (fun z => n (by rw [z]; exact hp))]; exact e
  · have ne : ∀ u, H a = some u → ¬ Mut (some u) → a ≠ p := fun u e nm z => by subst z; rw [e] at m; exact nm m
    rcases e with e | ⟨ob, e⟩
    · exact .inl (by rw [upd_ne (ne _ e (fun z => z))]; exact e)
    · exact .inr ⟨ob, by rw [upd_ne (ne _ e (fun z => z))]; exact e⟩
theorem Fr.putL {S : List Addr} {H : Hp} {p : Addr} {o : HO} {xs : List V} (hp : p ∈ S) (h : H p = some (.lst xs)) : Fr S H (upd H p o) := .put hp (by rw [h]; trivial)
theorem Fr.putD {S : List Addr} {H : Hp} {p : Addr} {o : HO} {xs : List (Key × V)} (hp : p ∈ S) (h : H p = some (.dK xs)) : Fr S H (upd H p o) := .put hp (by rw [h]; trivial)
theorem Fr.sqT {K : PySem.W.Frag} {S : List Addr} {H H' : Hp} {a : Addr} {xs : List V} (f : Fr S H H') (h : SqT K H a xs) : SqT K H' a xs := by
  rcases h with h | h
  · exact .inl (f.kp _ _ h)
  · exact .inr h
theorem Fr.sqL {K : PySem.W.Frag} {S : List Addr} {H H' : Hp} {a : Addr} {xs : List V} (f : Fr S H H') (h : SqL K H a xs) (n : a ∉ S) : SqL K H' a xs := by
  rcases h with (h | ⟨o, h⟩) | h
  · exact .inl (.inl (f.md _ _ h n))
  · exact .inl (.inr ⟨o, f.md _ _ h n⟩)
  · exact .inr h
theorem Fr.fresh {S : List Addr} {H H' : Hp} {p : Addr} (f : Fr S H H') (h : H' p = none) (n : p ∉ S) : H p = none := by
  cases q : H p with
  | none => rfl
  | some o => rw [f.md p o q n] at h; cases h
/-- an object that is new behind stands at none of the old ones -/
theorem Fr.ne {S : List Addr} {H H' : Hp} {p a : Addr} {o : HO} (f : Fr S H H') (h : H' p = none) (e : H a = some o) (n : a ∉ S) : a ≠ p := ne_of_none (f.md a o e n) h

/-! ### data -/
inductive D where
  | non | bl (b : Bool) | int (i : Int) | str (s : Str) | tup (ds : List D)
mutual
inductive Da (K : PySem.W.Frag) (H : Hp) : V → D → Prop
  | non : Da K H .non .non
  | bl (b : Bool) : Da K H (.bl b) (.bl b)
  | int (i : Int) : Da K H (.int i) (.int i)
  | str (s : Str) : Da K H (.str s) (.str s)
  | tup {a : Addr} {xs : List V} {ds : List D} : SqT K H a xs → Das K H xs ds → Da K H (.ref a) (.tup ds)
inductive Das (K : PySem.W.Frag) (H : Hp) : List V → List D → Prop
  | nil : Das K H [] []
  | cons {v : V} {vs : List V} {d : D} {ds : List D} : Da K H v d → Das K H vs ds → Das K H (v :: vs) (d :: ds)
end
section
variable {K : PySem.W.Frag} {H H' : Hp} {S : List Addr}
theorem sqT_k {a : Addr} {xs : List V} (k : Keep H H') (h : SqT K H a xs) : SqT K H' a xs := by
  rcases h with h | h
  · exact .inl (k _ _ h)
  · exact .inr h
mutual
theorem Da.k (f : Keep H H') : ∀ {v : V} {d : D}, Da K H v d → Da K H' v d
  | _, _, .non => .non
  | _, _, .bl b => .bl b
  | _, _, .int i => .int i
  | _, _, .str s => .str s
  | _, _, .tup h hs => .tup (sqT_k f h) (Das.k f hs)
theorem Das.k (f : Keep H H') : ∀ {vs : List V} {ds : List D}, Das K H vs ds → Das K H' vs ds
  | _, _, .nil => .nil
  | _, _, .cons h hs => .cons (Da.k f h) (Das.k f hs)
end
theorem Da.f (h : Da K H v d) (f : Fr S H H') : Da K H' v d := h.k f.kp
theorem Das.f {vs : List V} {ds : List D} (h : Das K H vs ds) (f : Fr S H H') : Das K H' vs ds := h.k f.kp
theorem Das.len : ∀ {vs : List V} {ds : List D}, Das K H vs ds → vs.length = ds.length
  | _, _, .nil => rfl
  | _, _, .cons _ h => congrArg (· + 1) h.len
theorem Das.get : ∀ {vs : List V} {ds : List D} {i : Nat} {v : V}, Das K H vs ds → vs[i]? = some v → ∃ d, ds[i]? = some d ∧ Da K H v d
  | _, _, i, _, .nil, e => by simp at e
  | _, _, 0, _, .cons h _, e => by simp at e; subst e; exact ⟨_, rfl, h⟩
  | _, _, i + 1, _, .cons _ h, e => by
    obtain ⟨d, h1, h2⟩ := h.get (i := i) (by simpa using e)
    exact ⟨d, by simpa using h1, h2⟩
theorem Das.app : ∀ {vs ws : List V} {ds es : List D}, Das K H vs ds → Das K H ws es → Das K H (vs ++ ws) (ds ++ es)
  | _, _, _, _, .nil, s => s
  | _, _, _, _, .cons h t, s => .cons h (Das.app t s)
/-- the parts of a tuple -/
theorem Da.un {v : V} {ds : List D} (h : Da K H v (.tup ds)) : ∃ a xs, v = .ref a ∧ SqT K H a xs ∧ Das K H xs ds := by
  cases h with
  | tup h hs => exact ⟨_, _, rfl, h, hs⟩
theorem Da.is_int {v : V} {i : Int} (h : Da K H v (.int i)) : v = .int i := by cases h; rfl
theorem Da.is_str {v : V} {s : Str} (h : Da K H v (.str s)) : v = .str s := by cases h; rfl
theorem Da.is_bl {v : V} {b : Bool} (h : Da K H v (.bl b)) : v = .bl b := by cases h; rfl
theorem Da.is_non {v : V} (h : Da K H v .non) : v = .non := by cases h; rfl
theorem Das.un1 {xs : List V} {d : D} {ds : List D} (h : Das K H xs (d :: ds)) : ∃ v vs, xs = v :: vs ∧ Da K H v d ∧ Das K H vs ds := by
  cases h with
  | cons h hs => exact ⟨_, _, rfl, h, hs⟩
theorem Das.un0 {xs : List V} (h : Das K H xs []) : xs = [] := by cases h; rfl
end

/-! ### a list's item by its operator (for o[i] += e) -/
def rGetL (K : PySem.W.Frag) : V → V → Hp → VK → Prop := fun x y H Q => ∃ p xs k v, x = .ref p ∧ y = .int k ∧ 0 ≤ k ∧ SqL K H p xs ∧ xs[k.toNat]? = some v ∧ Q v H
theorem get_list {X : Cx} : PGet X (rGetL X.K) := by
  intro pins s σ H o i ov iv Q I ro ri h
  obtain ⟨p, xs, k, v, rfl, rfl, h0, hS, ha, q⟩ := h
  cases ro
  obtain ⟨t, rfl⟩ := ri
  obtain ⟨its, r, pl, hsz⟩ := I.list hS
  obtain ⟨w, ew, rw'⟩ := r.get ha
  have hl := r.length
  have hn := line63
  have hk : k.toNat < its.length := (List.getElem?_eq_some_iff.mp ew).1
  exact wpAny_getItem_list pl.isList h0 (by omega) (by simpa using ew) ⟨v, H, I, rw', q⟩

/-! ### readings, step by step: what is asked first, what follows last -/
section
variable {K : PySem.W.Frag} {H : Hp} {Q : VK} {A B : Prop}
theorem rd_ixT {a : Addr} {xs : List V} {i : Int} {v : V} (h : SqT K H a xs) (e : atI xs i = some v) (q : Q v H) : rIxT K (.ref a) (.int i) H Q := ⟨a, xs, i, v, rfl, rfl, h, e, q⟩
theorem rd_ixL {a : Addr} {xs : List V} {i : Int} {v : V} (h : SqL K H a xs) (e : atI xs i = some v) (q : Q v H) : rIxL K (.ref a) (.int i) H Q := ⟨a, xs, i, v, rfl, rfl, h, e, q⟩
theorem rd_dget {σ : L2.St} {td ty : TE} {Q : VK} (h : td σ H fun x H1 => ty σ H1 fun y H2 => ∃ a kvs k v, x = .ref a ∧ y = kV k ∧ H2 a = some (.dK kvs) ∧ valV kvs k = some v ∧ Q v H2)
    (m1 : ∀ Q Q' : VK, (∀ v H, Q v H → Q' v H) → td σ H Q → td σ H Q') (m2 : ∀ H1, ∀ Q Q' : VK, (∀ v H, Q v H → Q' v H) → ty σ H1 Q → ty σ H1 Q') : tDGet td ty σ H Q :=
  m1 _ _ (fun x H1 q => m2 H1 _ _ (fun y H2 ⟨a, kvs, k, v, e1, e2, e3, e4, q⟩ => ⟨a, v, e1, .inl ⟨kvs, k, .inl e3, e2, e4.symm⟩, q⟩) q) h
theorem dget_k {a : Addr} {kvs : List (Key × V)} {k : Key} {v : V} {y : V} (e1 : H a = some (.dK kvs)) (e2 : y = kV k) (e3 : valV kvs k = some v) : DGet H a y (some v) := .inl ⟨kvs, k, .inl e1, e2, e3.symm⟩
theorem dget_f {a : Addr} {kvs : List (Key × V)} {k : Key} {v : V} {y : V} {o : Obj} (e1 : H a = some (.frz o (.dK kvs))) (e2 : y = kV k) (e3 : valV kvs k = some v) : DGet H a y (some v) := .inl ⟨kvs, k, .inr ⟨o, e1⟩, e2, e3.symm⟩
/-- the way of a test that is known -/
theorem if_yes {c : Prop} [Decidable c] (h : c) (q : A) : if decide c = true then A else B := by rw [decide_eq_true h]; exact iteT q
theorem if_no {c : Prop} [Decidable c] (h : ¬ c) (q : B) : if decide c = true then A else B := by rw [decide_eq_false h]; exact iteF q
theorem ifn_yes {c : Prop} [Decidable c] (h : ¬ c) (q : A) : if (!decide c) = true then A else B := by rw [decide_eq_false h]; exact iteT q
theorem ifn_no {c : Prop} [Decidable c] (h : c) (q : B) : if (!decide c) = true then A else B := by rw [decide_eq_true h]; exact iteF q
theorem if_both {c : Prop} [Decidable c] (p : c → A) (q : ¬ c → B) : if decide c = true then A else B := by
  by_cases h : c
  · exact if_yes h (p h)
  · exact if_no h (q h)
theorem ifn_both {c : Prop} [Decidable c] (p : ¬ c → A) (q : c → B) : if (!decide c) = true then A else B := by
  by_cases h : c
  · exact ifn_no h (q h)
  · exact ifn_yes h (p h)
theorem ifb_both {b : Bool} (p : b = true → A) (q : b = false → B) : if b = true then A else B := by
  cases b with
  | true => exact iteT (p rfl)
  | false => exact iteF (q rfl)
end

section
variable {K : PySem.W.Frag} {H : Hp} {v : V} {t s : Str} {d1 d2 d3 : D}
theorem un1 (h : Da K H v (.tup [.str t])) : ∃ a, v = .ref a ∧ SqT K H a [.str t] := by
  obtain ⟨a, xs, rfl, hT, hx⟩ := h.un
  obtain ⟨v1, xs, rfl, h1, hx⟩ := hx.un1
  cases hx; cases h1
  exact ⟨a, rfl, hT⟩
theorem un2 (h : Da K H v (.tup [.str t, d1])) : ∃ a v1, v = .ref a ∧ SqT K H a [.str t, v1] ∧ Da K H v1 d1 := by
  obtain ⟨a, xs, rfl, hT, hx⟩ := h.un
  obtain ⟨v0, xs, rfl, h0, hx⟩ := hx.un1
  obtain ⟨v1, xs, rfl, h1, hx⟩ := hx.un1
  cases hx; cases h0
  exact ⟨a, v1, rfl, hT, h1⟩
theorem un3 (h : Da K H v (.tup [.str t, d1, d2])) : ∃ a v1 v2, v = .ref a ∧ SqT K H a [.str t, v1, v2] ∧ Da K H v1 d1 ∧ Da K H v2 d2 := by
  obtain ⟨a, xs, rfl, hT, hx⟩ := h.un
  obtain ⟨v0, xs, rfl, h0, hx⟩ := hx.un1
  obtain ⟨v1, xs, rfl, h1, hx⟩ := hx.un1
  obtain ⟨v2, xs, rfl, h2, hx⟩ := hx.un1
  cases hx; cases h0
  exact ⟨a, v1, v2, rfl, hT, h1, h2⟩
theorem un4 (h : Da K H v (.tup [.str t, d1, d2, d3])) : ∃ a v1 v2 v3, v = .ref a ∧ SqT K H a [.str t, v1, v2, v3] ∧ Da K H v1 d1 ∧ Da K H v2 d2 ∧ Da K H v3 d3 := by
  obtain ⟨a, xs, rfl, hT, hx⟩ := h.un
  obtain ⟨v0, xs, rfl, h0, hx⟩ := hx.un1
  obtain ⟨v1, xs, rfl, h1, hx⟩ := hx.un1
  obtain ⟨v2, xs, rfl, h2, hx⟩ := hx.un1
  obtain ⟨v3, xs, rfl, h3, hx⟩ := hx.un1
  cases hx; cases h0
  exact ⟨a, v1, v2, v3, rfl, hT, h1, h2, h3⟩
theorem dget_s {a : Addr} {kvs : List (Key × V)} {v : V} (e1 : H a = some (.dK kvs)) (e3 : valV kvs (.inr s) = some v) : DGet H a (.str s) (some v) := .inl ⟨kvs, .inr s, .inl e1, rfl, e3.symm⟩
theorem dget_sf {a : Addr} {kvs : List (Key × V)} {v : V} {o : Obj} (e1 : H a = some (.frz o (.dK kvs))) (e3 : valV kvs (.inr s) = some v) : DGet H a (.str s) (some v) := .inl ⟨kvs, .inr s, .inr ⟨o, e1⟩, rfl, e3.symm⟩
end
/-- a new tuple of data -/
theorem Da.new {K : PySem.W.Frag} {H : Hp} {p : Addr} {xs : List V} {ds : List D} (hp : H p = none) (h : Das K H xs ds) : Da K (upd H p (.tup xs)) (.ref p) (.tup ds) :=
  .tup (SqT.of upd_same) (h.f (Fr.new (S := []) hp))

section
variable {A B : Prop}
theorem ifc {c : Prop} [Decidable c] (h : c) (q : A) : if c then A else B := by rw [if_pos h]; exact q
theorem ifnc {c : Prop} [Decidable c] (h : ¬ c) (q : B) : if c then A else B := by rw [if_neg h]; exact q
/-- what comes back is the wanted value -/
theorem q_bl {Q : VK} {H : Hp} {a b : Bool} (h : Q (.bl a) H) (e : b = a) : Q (.bl b) H := by rw [e]; exact h
theorem q_int {Q : VK} {H : Hp} {a b : Int} (h : Q (.int a) H) (e : b = a) : Q (.int b) H := by rw [e]; exact h
end

theorem bb_yes {c t : Prop} [Decidable c] [Decidable t] (h : t) : decide (V.bl (decide c) = V.bl (decide t)) = decide c := by
  rw [decide_eq_true h]; by_cases z : c <;> simp [z]
theorem bb_no {c t : Prop} [Decidable c] [Decidable t] (h : ¬ t) : decide (V.bl (decide c) = V.bl (decide t)) = !decide c := by
  rw [decide_eq_false h]; by_cases z : c <;> simp [z]
theorem int_is {i j : Int} : (V.int i = V.int j) ↔ i = j := ⟨fun h => V.int.inj h, fun h => by rw [h]⟩
theorem str_is {i j : Str} : (V.str i = V.str j) ↔ i = j := ⟨fun h => V.str.inj h, fun h => by rw [h]⟩

theorem sz100 {n : Nat} (h : Nat.ble n 100 = true) : n ≤ sizeLine := Nat.le_trans (Nat.le_of_ble_eq_true h) (by decide)
theorem lc_yes {σ : L2.St} {H : Hp} {A B : Hp → Prop} (q : A H) : tYes σ H fun b H3 => if b = true then A H3 else B H3 := q

theorem cdw {i j : Int} (h : 0 < j) (h2 : j < 2 ^ 64) : CDivW i j := wide_div h (b := 64) (by omega) (by omega) (by omega)

theorem at_get {α : Type} {xs : List α} {i : Int} (h0 : 0 ≤ i) (hl : i.toNat < xs.length) : atI xs i = some xs[i.toNat] := by
  have h := atI_nat (j := i.toNat) (List.getElem?_eq_getElem hl)
  rwa [Int.toNat_of_nonneg h0] at h
/-- the kind of a told thing -/
def D.ty : D → String
  | .non => "NoneType" | .bl _ => "bool" | .int _ => "int" | .str _ => "str" | .tup _ => "tuple"
theorem Da.tyx {K : PySem.W.Frag} {H : Hp} : ∀ {v : V} {d : D}, Da K H v d → TyX K H v (.type d.ty)
  | _, _, .non => .base .non
  | _, _, .bl b => .base (.bl b)
  | _, _, .int i => .base (.int i)
  | _, _, .str s => .base (.str s)
  | _, _, .tup h _ => by
    rcases h with (h | ⟨o, h⟩) | h
    · exact .base (.tup h)
    · exact .fTuple h
    · obtain ⟨o, its, n, h1, h2, _⟩ := h
      exact .kTuple h1 h2
mutual
def D.same : D → D → Bool
  | .non, .non => true
  | .bl a, .bl b => decide (a = b)
  | .int a, .int b => decide (a = b)
  | .str a, .str b => decide (a = b)
  | .tup xs, .tup ys => D.sames xs ys
  | _, _ => false
def D.sames : List D → List D → Bool
  | [], [] => true
  | x :: xs, y :: ys => D.same x y && D.sames xs ys
  | _, _ => false
end
mutual
theorem D.same_refl : ∀ d : D, D.same d d = true
  | .non => by simp [D.same]
  | .bl _ => by simp [D.same]
  | .int _ => by simp [D.same]
  | .str _ => by simp [D.same]
  | .tup xs => by simp [D.same, D.sames_refl xs]
theorem D.sames_refl : ∀ xs : List D, D.sames xs xs = true
  | [] => by simp [D.sames]
  | x :: xs => by simp [D.sames, D.same_refl x, D.sames_refl xs]
end
mutual
theorem D.eq_of : ∀ {d e : D}, D.same d e = true → d = e
  | .non, .non, _ => rfl
  | .bl a, .bl b, h => by simp [D.same] at h; rw [h]
  | .int a, .int b, h => by simp [D.same] at h; rw [h]
  | .str a, .str b, h => by simp [D.same] at h; rw [h]
  | .tup xs, .tup ys, h => by simp [D.same] at h; rw [D.eqs_of h]
  | .non, .bl _, h | .non, .int _, h | .non, .str _, h | .non, .tup _, h | .bl _, .non, h | .bl _, .int _, h | .bl _, .str _, h | .bl _, .tup _, h
  | .int _, .non, h | .int _, .bl _, h | .int _, .str _, h | .int _, .tup _, h | .str _, .non, h | .str _, .bl _, h | .str _, .int _, h | .str _, .tup _, h
  | .tup _, .non, h | .tup _, .bl _, h | .tup _, .int _, h | .tup _, .str _, h => by simp [D.same] at h
theorem D.eqs_of : ∀ {xs ys : List D}, D.sames xs ys = true → xs = ys
  | [], [], _ => rfl
  | x :: xs, y :: ys, h => by
    simp [D.sames] at h
    rw [D.eq_of h.1, D.eqs_of h.2]
  | [], _ :: _, h | _ :: _, [], h => by simp [D.sames] at h
end
mutual
def D.depth : D → Nat
  | .tup xs => D.depths xs + 1
  | _ => 1
def D.depths : List D → Nat
  | [] => 0
  | x :: xs => max x.depth (D.depths xs)
end
theorem D.depth_mem : ∀ {xs : List D} {i : Nat} {x : D}, xs[i]? = some x → x.depth ≤ D.depths xs
  | [], i, _, e => by simp at e
  | y :: ys, 0, _, e => by simp at e; subst e; simp only [D.depths]; omega
  | y :: ys, i + 1, _, e => by
    have := D.depth_mem (xs := ys) (i := i) (by simpa using e)
    simp only [D.depths]; omega
theorem D.sames_iff : ∀ {xs ys : List D}, xs.length = ys.length → (D.sames xs ys = true ↔ ∀ (i : Nat) x y, xs[i]? = some x → ys[i]? = some y → D.same x y = true)
  | [], [], _ => by simp [D.sames]
  | x :: xs, y :: ys, h => by
    have ih := D.sames_iff (xs := xs) (ys := ys) (by simpa using h)
    simp only [D.sames, Bool.and_eq_true, ih]
    constructor
    · rintro ⟨h1, h2⟩ i a b ea eb
      cases i with
      | zero => simp at ea eb; subst ea eb; exact h1
      | succ i => exact h2 i a b (by simpa using ea) (by simpa using eb)
    · intro h
      exact ⟨h 0 x y rfl rfl, fun i a b ea eb => h (i + 1) a b (by simpa using ea) (by simpa using eb)⟩
theorem tyx_tup {K : PySem.W.Frag} {H : Hp} {a : Addr} {xs : List V} (h : SqT K H a xs) : TyX K H (.ref a) (.type "tuple") := by
  rcases h with (h | ⟨o, h⟩) | h
  · exact .base (.tup h)
  · exact .fTuple h
  · obtain ⟨o, its, n, h1, h2, _⟩ := h
    exact .kTuple h1 h2

/-! ### the rules with the written part named once (K), so that they stand in a comprehension too -/
section
variable {X : Cx} {K : PySem.W.Frag}
theorem ixT (h : X.K = K := by rfl) : IxR X (rIxT K) := by subst h; exact ix_tup
theorem ixL (h : X.K = K := by rfl) : IxR X (rIxL K) := by subst h; exact ix_list
theorem ixQ (h : X.K = K := by rfl) : IxR X (rIx K) := by subst h; exact ix_seq
theorem slL (h : X.K = K := by rfl) : SlR X (rSlL K) := by subst h; exact sl_list
theorem slT (h : X.K = K := by rfl) : SlR X (rSlA K) := by subst h; exact sl_tupA
theorem inQ (h : X.K = K := by rfl) : OpR X (compareOp .In) (rIn K false) := by subst h; exact op_in_seq
theorem ninQ (h : X.K = K := by rfl) : OpR X (compareOp .NotIn) (rIn K true) := by subst h; exact op_notIn_seq
theorem catT (h : X.K = K := by rfl) : OpR X (binaryOp .Add) (rCatA K) := by subst h; exact op_catA
theorem eqD (hu : X.A.units + 64 < cLine) (h : X.K = K := by rfl) : OpR X (compareOp .Eq) (rEqD K) := by subst h; exact op_eqD hu
theorem neD (hu : X.A.units + 64 < cLine) (h : X.K = K := by rfl) : OpR X (compareOp .NotEq) (rNeD K) := by subst h; exact op_neD hu
/-- len, with the bound that every list, tuple and text has -/
def rLen (K : PySem.W.Frag) : List V → Hp → VK → Prop := fun xs H Q => ∃ x n, xs = [x] ∧ LenV K x H n ∧ (n ≤ sizeLine → Q (.int n) H)
theorem lenA (h : X.K = K := by rfl) : CallR X (.builtin "len") (rLen K) := by
  subst h
  intro pins s σ H xs us Q I r ⟨x, n, hx, hl, q⟩
  have hb : n ≤ sizeLine := by
    cases x with
    | str y => rw [hl.2]; exact hl.1
    | byt y => rw [hl.2]; exact hl.1
    | ref p =>
      rcases hl with ⟨ys, h, e⟩ | ⟨ys, h, e⟩
      · obtain ⟨_, _, _, z⟩ := I.list h
        rw [e]; exact z
      · obtain ⟨_, _, _, z⟩ := I.tuple h
        rw [e]; exact z
    | _ => exact hl.elim
  exact call_len pins s σ H xs us Q I r ⟨x, n, hx, hl, q hb⟩
theorem isiA (h : X.K = K := by rfl) : CallR X (.builtin "isinstance") (rIsi K) := by subst h; exact call_isi
def rTupOf (K : PySem.W.Frag) : List V → Hp → VK → Prop := fun xs H Q => ∃ p ys, xs = [.ref p] ∧ ((SqL K H p ys ∧ ∀ l, H l = none → Q (.ref l) (upd H l (.tup ys))) ∨ (SqT K H p ys ∧ Q (.ref p) H))
theorem tupOf (h : X.K = K := by rfl) : CallR X (.type "tuple") (rTupOf K) := by subst h; exact call_tuple_of
def rLstOf (K : PySem.W.Frag) : List V → Hp → VK → Prop := fun xs H Q => ∃ p ys, xs = [.ref p] ∧ (SqL K H p ys ∨ SqT K H p ys) ∧ ∀ l, H l = none → Q (.ref l) (upd H l (.lst ys))
theorem lstOf (h : X.K = K := by rfl) : CallR X (.type "list") (rLstOf K) := by subst h; exact call_list_of
def rJoin (K : PySem.W.Frag) : V → List V → Hp → VK → Prop := fun x xs H Q => ∃ a p, ∃ ys : List Str, x = .str a ∧ xs = [.ref p] ∧ (SqL K H p (ys.map V.str) ∨ SqT K H p (ys.map V.str)) ∧
    (ys.map (·.length)).sum + ys.length * a.length ≤ 16777216 ∧ Q (.str (Txt.join a ys)) H
theorem joinA (h : X.K = K := by rfl) : MtR X "str.join" (rJoin K) := by subst h; exact mt_join
theorem indexA (h : X.K = K := by rfl) : MtR X "list.index" (rIndex K) := by subst h; exact mt_index
theorem getL (h : X.K = K := by rfl) : PGet X (rGetL K) := by subst h; exact get_list
theorem piL {tg l : Expr} {tl : TE} (hl : PE X l tl) (h : X.K = K := by rfl) : PI X tg l (iList K tl) := by subst h; exact pi_list hl
theorem piT {tg l : Expr} {tl : TE} (hl : PE X l tl) (h : X.K = K := by rfl) : PI X tg l (iTup K tl) := by subst h; exact pi_tup hl
theorem piE {e : Expr} {ta : TA} {p pos tpos : Pos} {elts : List Expr} {kk : Nat} (hg : Gl X "enumerate") (hm : X.mg "enumerate" = none) (ha : PA X [e] ta) (hs : starEach [e] X.env = [(false, eval e X.env)] := by rfl) (h : X.K = K := by rfl) :
    PI X (.Tuple elts kk tpos) (.Call (.Name "enumerate" p) [e] [] pos) (iEnum K ta) := by subst h; exact pi_enum hg hm ha hs
theorem piZ {e e2 : Expr} {ta : TA} {p pos tpos : Pos} {elts : List Expr} {kk : Nat} (hg : Gl X "zip") (hm : X.mg "zip" = none) (ha : PA X [e, e2] ta)
    (hs : starEach [e, e2] X.env = (false, eval e X.env) :: starEach [e2] X.env := by rfl) (hpl : (backTo pos (starEach [e2] X.env)).any (·.1) = false := by rfl) (h : X.K = K := by rfl) :
    PI X (.Tuple elts kk tpos) (.Call (.Name "zip" p) [e, e2] [] pos) (iZip K ta) := by subst h; exact pi_zip hg hm ha hs hpl
theorem bm0 {o : Expr} {to : TE} {name : Str} {apos cpos : Pos} {T id : String} {r : V → List V → Hp → VK → Prop} (pa : PlainAttrs T) (slot : Slot T name id) (hty : typeOf (.builtin id) = pure (.type "method_descriptor")) (hm : MtR X id r) (ho : PE X o to)
    (hbase : attributeBase o name X.env (eval o X.env) = eval o X.env := by rfl) (hline : (apos.endLine == cpos.line) = true := by rfl) (h : X.K = K := by rfl) : PE X (.Call (.Attribute o name apos) [] [] cpos) (tBM0 K T r to) := by subst h; exact pe_bm0 pa slot hty hm ho hbase hline
theorem bm {o e : Expr} {es : List Expr} {to : TE} {t : TA} {name : Str} {apos cpos : Pos} {T id : String} {r : V → List V → Hp → VK → Prop} (pa : PlainAttrs T) (slot : Slot T name id) (hty : typeOf (.builtin id) = pure (.type "method_descriptor")) (hm : MtR X id r) (ho : PE X o to) (ha : PA X (e :: es) t)
    (hbase : attributeBase o name X.env (eval o X.env) = eval o X.env := by rfl)
    (hfew : ((backTo cpos (starEach (e :: es) X.env)).all (fun x => !x.1) && (backToKw cpos (keywordEach [] X.env)).all (fun x => x.1.isSome)
      && decide ((e :: es).length + ([] : List Keyword).length + (if ([] : List Keyword).isEmpty then 0 else 1) < 30)) = true := by rfl)
    (hline : (apos.endLine == cpos.line) = true := by rfl) (hs : starEach (e :: es) X.env = (false, eval e X.env) :: starEach es X.env := by rfl) (hplain : (backTo cpos (starEach es X.env)).any (·.1) = false := by rfl) (h : X.K = K := by rfl) :
    PE X (.Call (.Attribute o name apos) (e :: es) [] cpos) (tBM K T r to t) := by subst h; exact pe_bm pa slot hty hm ho ha hbase hfew hline hs hplain
/-- a truth test, its reading shut behind a name -/
def tTru (K : PySem.W.Frag) (ta : TE) : TT := fun σ H Q => ta σ H fun x H' => ∃ k, TruV K x H' k ∧ Q k H'
theorem ptT {a : Expr} {ta : TE} (ha : PE X a ta) (he : ∀ whole, isTrue a X.env whole = (do let v ← whole; standAt a.pos; holding [v] (truthy v))) (h : X.K = K := by rfl) : PT X a (tTru K ta) := by subst h; exact pt_truth ha he
/-- a built-in type's name as a value -/
theorem tyN {x : Str} {n : String} {pos : Pos} (hg : Gl X x) (hm : X.mg x = none) (hv : bootBuiltins x = some (.type n)) (hn : x ≠ "__name__" := by decide) (hd : (x == ("__debug__" : Str)) = false := by decide) : PE X (.Name x pos) (tC (.ty n)) :=
  pe_bltn (v := .ty n) hg hm hv rfl hn hd
end

theorem lt62 {n : Nat} (h : n ≤ sizeLine) : (n : Int) < 2 ^ 62 := by
  have : n ≤ 16777216 := h
  omega
theorem lt60 {n : Nat} (h : n ≤ sizeLine) : n < 2 ^ 60 := by
  have : n ≤ 16777216 := h
  omega

/-- what H does not know may change -/
theorem Fr.mut {S : List Addr} {H H' : Hp} {p : Addr} {o : HO} (F : Fr S H H') (h : H p = none) : Fr S H (upd H' p o) := by
  refine ⟨fun a u e n => ?_, fun a xs e => ?_⟩
  · rw [upd_ne (ne_of_none e h)]; exact F.md a u e n
  · have hr := F.kp a xs e
    have ne : a ≠ p := by
      rcases e with e | ⟨ob, e⟩
      · exact ne_of_none e h
      · exact ne_of_none e h
    rcases hr with hr | ⟨ob, hr⟩
    · exact .inl (by rw [upd_ne ne]; exact hr)
    · exact .inr ⟨ob, by rw [upd_ne ne]; exact hr⟩

/-! ### texts -/
theorem fold_len (g : Str) (ys : List Str) : ∀ acc : Array Nat, (ys.foldl (fun acc p => acc ++ g.cps ++ p.cps) acc).size = acc.size + (ys.map (·.length)).sum + ys.length * g.length := by
  induction ys with
  | nil => intro acc; simp
  | cons y r ih =>
    intro acc
    rw [List.foldl_cons, ih]
    simp only [Array.size_append, List.map_cons, List.sum_cons, List.length_cons, Str.length, Nat.add_mul]
    omega
theorem join_len0 (ys : List Str) : (Txt.join (Str.ofString "") ys).length = (ys.map (·.length)).sum := by
  cases ys with
  | nil => rfl
  | cons y r =>
    show (List.foldl _ (List.headD (y :: r) Str.empty).cps (List.drop 1 (y :: r))).size = _
    rw [List.drop_one, List.tail_cons, fold_len]
    show y.cps.size + (r.map (·.length)).sum + r.length * 0 = _
    simp [Str.length]
theorem cutS_len (z : Str) (n : Nat): (cutS z none (some (n : Int))).length ≤ n := by
  unfold cutS HT.sIx
  simp only [Str.length]
  rw [if_neg (by omega)]
  simp
  omega

theorem str3 : ∀ i : _root_.Fin 1000, ((Str.ofString (toString ((i.val : Nat) : Int)))).length ≤ 3 := by decide +kernel
theorem len_app (a b : Str) : (a ++ b).length = a.length + b.length := Str.length_append a b
theorem mem_str {us : List Str} {v : V} (h : v ∈ us.map V.str) : ∃ s, v = .str s ∧ s ∈ us := by
  obtain ⟨s, h1, h2⟩ := List.mem_map.mp h
  exact ⟨s, h2.symm, h1⟩
theorem flat_strs (us : List Str) : (us.map V.str).all flatV = true := by
  induction us with
  | nil => rfl
  | cons u r ih => rw [List.map_cons, List.all_cons, ih]; rfl

/-! ### a part of a reading by what it ends in -/
theorem cps_if {c : TT} {t u : TS} {E : Ends} {σ : L2.St} {H : Hp} (P : Bool → Hp → Prop) (h1 : ∀ Q : Bool → Hp → Prop, (∀ b H', P b H' → Q b H') → c σ H Q) (h2 : ∀ H', P true H' → t E σ H') (h3 : ∀ H', P false H' → u E σ H') : tIfS c t u E σ H :=
  h1 _ fun b H' p => by
    cases b with
    | true => exact (if_pos rfl : (if true = true then t E σ H' else u E σ H') = _).symm ▸ h2 H' p
    | false => exact (if_neg Bool.false_ne_true : (if false = true then t E σ H' else u E σ H') = _).symm ▸ h3 H' p
theorem cps {te : TE} {σ : L2.St} {H : Hp} {Q : VK} (P : V → Hp → Prop) (h1 : ∀ Q : VK, (∀ v H', P v H' → Q v H') → te σ H Q) (h2 : ∀ v H', P v H' → Q v H') : te σ H Q := h1 Q h2
theorem ixS {z : Str} {i : Int} {H : Hp} {Q : VK} (hz : z.length ≤ sizeLine) (h0 : 0 ≤ i) (h1 : i < (z.length : Int)) (q : ∀ c, c ∈ z.cps.toList → Q (.str ⟨#[c]⟩) H) : rIxS (.str z) (.int i) H Q :=
  have hl : i.toNat < z.cps.toList.length := by simp [Str.length] at h1 ⊢; omega
  ⟨z, i, _, rfl, rfl, hz, at_get h0 hl, q _ (List.getElem_mem hl)⟩

theorem seq_ {t u : TS} {E : Ends} {σ : L2.St} {H : Hp} (h : t { E with nx := u E } σ H) : tSeq t u E σ H := h
theorem cut_ {t u : TS} {E : Ends} {σ : L2.St} {H : Hp} (Mid : L2.St → Hp → Prop) (h : t { E with nx := Mid } σ H) (h2 : ∀ σ' H', Mid σ' H' → u E σ' H') : C8.tCut t u E σ H := ⟨Mid, h, h2⟩

/-! ### dicts of texts and ints -/
/-- a dict from texts to ints, no key twice -/
structure SI (kvs : List (Key × V)) : Prop where
  nd : (kvs.map (·.1)).Nodup
  si : ∀ p ∈ kvs, ∃ (s : Str) (i : Int), p = (.inr s, .int i)
theorem SI.nil : SI [] := ⟨List.nodup_nil, fun _ h => absurd h (by simp)⟩
theorem SI.put {kvs : List (Key × V)} (h : SI kvs) (s : Str) (i : Int) : SI (putK kvs (.inr s) (.int i)) := by
  cases e : valV kvs (.inr s : Key) with
  | none =>
    refine ⟨nd_putK _ h.nd e, fun p hp => ?_⟩
    rw [putK_new _ e] at hp
    rcases List.mem_append.mp hp with q | q
    · exact h.si p q
    · exact ⟨s, i, List.mem_singleton.mp q⟩
  | some v =>
    have hk : putK kvs (.inr s : Key) (.int i) = kvs.map fun kv => if kv.1 = .inr s then (kv.1, .int i) else kv := by
      unfold putK
      rw [valV_any, e]
      rfl
    rw [hk]
    refine ⟨?_, fun p hp => ?_⟩
    · have e2 : (kvs.map fun kv => if kv.1 = (.inr s : Key) then (kv.1, V.int i) else kv).map (·.1) = kvs.map (·.1) := by
        rw [List.map_map]
        apply List.map_congr_left
        intro a _
        show (if a.1 = .inr s then (a.1, V.int i) else a).1 = a.1
        split <;> rfl
      rw [e2]; exact h.nd
    · obtain ⟨a, ha, rfl⟩ := List.mem_map.mp hp
      obtain ⟨t, j, rfl⟩ := h.si a ha
      show ∃ s_1 i_1, (if (Sum.inr t : Key) = .inr s then ((Sum.inr t : Key), V.int i) else (Sum.inr t, .int j)) = (.inr s_1, .int i_1)
      split
      · exact ⟨t, i, rfl⟩
      · exact ⟨t, j, rfl⟩
/-- a key's own value -/
theorem SI.val {kvs : List (Key × V)} (h : SI kvs) {p : Key × V} (hp : p ∈ kvs) : valV kvs p.1 = some p.2 := by
  have hn := h.nd
  clear h
  induction kvs with
  | nil => cases hp
  | cons q r ih =>
    rw [List.map_cons, List.nodup_cons] at hn
    rcases List.mem_cons.mp hp with e | e
    · subst e; exact valV_pos rfl
    · rw [valV_neg (fun z => hn.1 (by rw [z]; exact List.mem_map.mpr ⟨p, e, rfl⟩))]
      exact ih e hn.2
/-- the names that the dict knows -/
def Knows (kvs : List (Key × V)) (s : Str) : Prop := ∃ i : Int, valV kvs (.inr s) = some (.int i)
theorem Knows.put {kvs : List (Key × V)} {s : Str} (h : Knows kvs s) (t : Str) (j : Int) : Knows (putK kvs (.inr t) (.int j)) s := by
  obtain ⟨i, h⟩ := h
  unfold Knows
  rw [valV_put]
  split
  · exact ⟨j, rfl⟩
  · exact ⟨i, h⟩
theorem Knows.new {kvs : List (Key × V)} (t : Str) (j : Int) : Knows (putK kvs (.inr t) (.int j)) t := ⟨j, by rw [valV_put, if_pos rfl]⟩
/-- the values as a function -/
def env (kvs : List (Key × V)) (s : Str) : Int := match valV kvs (.inr s : Key) with
  | some (.int i) => i
  | _ => 0
theorem Knows.env {kvs : List (Key × V)} {s : Str} (h : Knows kvs s) : valV kvs (.inr s) = some (.int (env kvs s)) := by
  obtain ⟨i, h⟩ := h
  unfold G.env
  rw [h]

/-- x = e; rest: e by what it ends in -/
theorem cps_set {te : TE} {i : Nat} {u : TS} {E : Ends} {σ : L2.St} {H : Hp} (P : V → Hp → Prop) (h1 : ∀ Q : VK, (∀ v H', P v H' → Q v H') → te σ H Q) (h2 : ∀ v H', P v H' → u E (σ.set i (some v)) H') : tSeq (tAsg te (gName i)) u E σ H := h1 _ h2
theorem cps_drop {te : TE} {u : TS} {E : Ends} {σ : L2.St} {H : Hp} (P : V → Hp → Prop) (h1 : ∀ Q : VK, (∀ v H', P v H' → Q v H') → te σ H Q) (h2 : ∀ v H', P v H' → u E σ H') : tSeq (tDrop te) u E σ H := h1 _ h2
theorem cps_drop1 {te : TE} {E : Ends} {σ : L2.St} {H : Hp} (P : V → Hp → Prop) (h1 : ∀ Q : VK, (∀ v H', P v H' → Q v H') → te σ H Q) (h2 : ∀ v H', P v H' → E.nx σ H') : tDrop te E σ H := h1 _ h2

theorem dput_s {H : Hp} {a : Addr} {kvs : List (Key × V)} {s : Str} {v : V} (e : H a = some (.dK kvs)) (hl : kvs.length < sizeLine) : DPut H a (.str s) v (upd H a (.dK (putK kvs (.inr s) v))) := DPut.k (k := .inr s) e hl
end G

namespace G
open PySem PySem.Spec PyProof.Rows L2
/-! ### texts: repeated, a module's own -/
def rRepS : V → V → Hp → VK → Prop := fun x y H Q => ∃ z n, x = .str z ∧ y = .int n ∧ z.length ≤ 10000 ∧ 0 ≤ n ∧ n ≤ 100 ∧ ∀ z' : Str, z'.length ≤ z.length * n.toNat → Q (.str z') H
theorem repS {X : Cx} : OpR X (binaryOp .Mult) rRepS := by
  intro pins s σ H x y v u Q I rx ry h
  obtain ⟨z, n, rfl, rfl, hz, h0, h1, q⟩ := h
  obtain ⟨t, rfl⟩ := rx
  obtain ⟨t', rfl⟩ := ry
  have e := len_mul z n
  rw [if_neg (by simp; omega)] at e
  refine SB.mul (mulOk_of 10000 100 hz h1 (by omega) (by decide) (by decide)) fun t' k => ⟨.str (Txt.mul z n), H, I.tok _, ⟨_, rfl⟩, q _ ?_⟩
  have : ((z.length * n.toNat : Nat) : Int) = (z.length : Int) * n := by rw [Int.natCast_mul, Int.toNat_of_nonneg h0]
  omega
theorem globV {X : Cx} {x : Str} {v : V} {pos : Pos} (hg : Gl X x) (h : ∃ u, X.mg x = some u ∧ RelV v u) (hd : (x == ("__debug__" : Str)) = false := by decide) : PE X (.Name x pos) (tC v) := by
  obtain ⟨u, h1, h2⟩ := h
  exact pe_glob hg h1 h2 hd
/-- a module's own tuple -/
def tTop (K : PySem.W.Frag) (xs : List V) : TE := fun _ H Q => ∀ a, (∀ H, SqT K H a xs) → Q (.ref a) H
theorem globT {X : Cx} {K : PySem.W.Frag} {x : Str} {xs : List V} {pos : Pos} (hg : Gl X x) (h : ∃ a, X.mg x = some (.ref a) ∧ ∀ H, SqT K H a xs) (hd : (x == ("__debug__" : Str)) = false := by decide) : PE X (.Name x pos) (tTop K xs) := by
  obtain ⟨a, h1, h2⟩ := h
  exact ⟨fun pins s σ H Q I q => (pe_glob (v := .ref a) hg h1 rfl hd).run pins s σ H Q I (q a h2)⟩
/-- a written tuple of texts -/
def strsB : List Value → List Str → Bool
  | [], [] => true
  | .str x _ :: us, y :: ys => decide (x = y) && strsB us ys
  | _, _ => false
theorem strsB_vals : ∀ {us : List Value} {ys : List Str}, strsB us ys = true → Vals (ys.map V.str) us
  | [], [], _ => .nil
  | [], _ :: _, h => by simp [strsB] at h
  | u :: _, [], h => by cases u <;> simp [strsB] at h
  | u :: us, y :: ys, h => by
    cases u with
    | str x t =>
      simp only [strsB, Bool.and_eq_true, decide_eq_true_eq] at h
      obtain ⟨rfl, h⟩ := h
      exact .cons ⟨t, rfl⟩ (strsB_vals h)
    | _ => simp [strsB] at h
theorem topT {K : PySem.W.Frag} {mg : Str → Option Value} {x : Str} {a : Addr} {od : Option Addr} {its : Array Value} {n : Nat} {sl : Array (Option Value)} {ys : List Str} (h : mg x = some (.ref a)) (l : K.lookup a = some ⟨.type "tuple", od, .seq its n, sl⟩)
    (b : (strsB its.toList ys && Nat.ble its.size 100) = true) : ∃ a, mg x = some (.ref a) ∧ ∀ H, SqT K H a (ys.map V.str) := by
  rw [Bool.and_eq_true] at b
  exact ⟨a, h, fun H => .inr ⟨_, its, n, l, rfl, rfl, sz100 b.2, strsB_vals b.1⟩⟩
/-! ### signs -/
/-- a text of these signs -/
def mk (l : List Nat) : Str := ⟨l.toArray⟩
theorem mk_tl (s : Str) : mk s.cps.toList = s := rfl
theorem mk_inj {l m : List Nat} : mk l = mk m ↔ l = m := ⟨fun h => by have := congrArg (fun s : Str => s.cps.toList) h; simpa [mk] using this, fun h => by rw [h]⟩
theorem tl_mk (l : List Nat) : (mk l).cps.toList = l := rfl
theorem mk_app (l m : List Nat) : mk l ++ mk m = mk (l ++ m) := by
  have h : ∀ a b : Str, a.cps = b.cps → a = b := fun a b e => by cases a; cases b; cases e; rfl
  apply h
  show l.toArray ++ m.toArray = (l ++ m).toArray
  simp
theorem mk_len (l : List Nat) : (mk l).length = l.length := by simp [mk, Str.length]
theorem len_tl (s : Str) : s.length = s.cps.toList.length := by simp [Str.length]
theorem pe_c0 {X : Cx} {k j : Nat} {x : Str} {sp : Sp} {p pos : Pos} (c : Cal X.prog X.w X.K X.mg X.base k x sp) (hr : Room j X.A) (hk : k ≤ j) (hg : Gl X x)
    (hdb : (x == ("__debug__" : Str)) = false := by decide) :
    PE X (.Call (.Name x p) [] [] pos) (tCall (Gp sp) [] E0 tNil) := by
  obtain ⟨f, fd, ps, F, hm, kp, b⟩ := c.ex
  exact pe_call0 ((F.imp (sp' := Gp sp) fun _ _ _ _ h => Go.out h).mono (Nat.le_refl _)) (hr.mono hk) hg hm kp b .nil pass0 hdb
end G

namespace Lw
open PySem L2 G
-- short words: steps of a reading
local macro_rules | `(tactic| walk_at "sqT") => `(tactic| first | assumption | (refine Fr.sqT (by assumption) ?_; walk_at "sqT") | (refine Fr.sqT (Fr.new (S := []) (by assumption)) ?_; walk_at "sqT"))
local macro_rules | `(tactic| walk_at "sqL") => `(tactic| first | assumption | exact SqL.of (by assumption) | exact SqL.of upd_same)
local macro_rules | `(tactic| walk_at "da") => `(tactic| first | assumption | (refine Da.f ?_ (by assumption); walk_at "da") | (refine Da.f ?_ (Fr.new (S := []) (by assumption)); walk_at "da"))
local macro_rules | `(tactic| walk_at "das") => `(tactic| first | assumption | (refine Das.f ?_ (by assumption); walk_at "das") | (refine Das.f ?_ (Fr.new (S := []) (by assumption)); walk_at "das"))
local macro_rules | `(tactic| walk_at "hp") => `(tactic| first | assumption | (refine Fr.md (by assumption) _ _ ?_ (by simp); walk_at "hp") | (refine Fr.md (Fr.new (S := []) (by assumption)) _ _ ?_ (by simp); walk_at "hp"))
local macro_rules | `(tactic| walk_at "fr") => `(tactic| first | exact Fr.refl _ | assumption | exact Fr.new (by assumption) | (refine Fr.trans ?_ (by assumption); walk_at "fr") | (refine Fr.trans ?_ (Fr.new (by assumption)); walk_at "fr"))
local macro_rules | `(tactic| walk_at "side") => `(tactic| first
  | omega
  | exact Or.inl ⟨by omega, by omega⟩
  | exact Or.inr ⟨by omega, by omega⟩
  | exact cdw (by omega) (by omega)
  | exact ⟨by decide, by decide, by decide⟩
  | exact sz100 rfl
  | (with_reducible exact lt62 (by assumption))
  | ((with_reducible show (0 : Int) < 1 * 2 ^ Int.toNat 4000); exact Int.mul_pos (by decide) (Int.pow_pos (by decide)))
  | (show _ ≤ 16777216; omega)
  | (show _ < 16777216; omega)
  | (show _ ≤ 16777216; simp only [G.len_app]; omega))
local macro_rules | `(tactic| walk_at "tyx") => `(tactic| first | exact .base (.int _) | exact .base (.str _) | exact .base (.bl _) | exact .base .non | exact tyx_tup (by walk_at "sqT") | exact .base (.lst (by assumption)))
-- one step
local macro_rules | `(tactic| walk_at "s") => `(tactic| first
  | refine ⟨_, rfl, ?_⟩
  | refine ⟨_, _, rfl, rfl, ?_⟩
  | refine ⟨rfl, ?_⟩
  | (refine ⟨_, ?xs, _, ?v, rfl, rfl, ?h1, ?h2, ?q⟩; (case h1 => walk_at "sqT"); (case h2 => rfl))
  | (refine ⟨_, ?xs, _, ?v, rfl, rfl, ?h1, ?h2, ?q⟩; (case h1 => walk_at "sqL"); (case h2 => rfl))
  | (refine' ⟨_, _, rfl, Or.inl ⟨_, ?h, rfl⟩, fun hlen => ?q⟩; (case h => walk_at "sqL"))
  | (refine' ⟨_, _, rfl, Or.inr ⟨_, ?h, rfl⟩, fun hlen => ?q⟩; (case h => walk_at "sqT"))
  | (refine' And.intro (Or.inl ⟨rfl, _, ?h⟩) ?q; (case h => first | exact SqL.of (by walk_at "hp") | walk_at "sqL"))
  | refine Or.inl ⟨_, rfl, ?_⟩
  | refine Or.inr ⟨_, rfl, ?_⟩
  | (refine' ⟨_, _, _, _, true, rfl, .ty _, ?h, kit_ty ?k, ?q⟩; (case h => walk_at "tyx"); (case k => decide +kernel))
  | (refine' ⟨_, _, _, _, false, rfl, .ty _, ?h, kit_ty ?k, ?q⟩; (case h => walk_at "tyx"); (case k => decide +kernel))
  | refine if_yes (show _ = _ from rfl) ?_
  | refine if_no (by decide +kernel) ?_
  | (refine if_no ?h ?q; (case h => (intro h; cases h; done)))
  | refine ifc (by decide +kernel) ?_
  | refine ifnc (by decide +kernel) ?_
  | (refine ⟨sz100 rfl, fun p hp => ?_⟩)
  | (refine And.intro ?c ?q; (case c => walk_at "side"))
  | (refine ⟨_, _, rfl, Or.inr (SqT.of upd_same), rfl, rfl, ?_⟩)
  | refine ⟨_, _, rfl, ?_⟩
  | (refine if_yes ?_ ?_; (omega))
  | (refine if_no ?_ ?_; (omega))
  | (refine ifn_yes ?_ ?_; (omega))
  | (refine ifn_no ?_ ?_; (omega)))
local macro_rules | `(tactic| walk_at "r") => `(tactic| repeat (walk_at "s"))
-- to the next statement's own form
local macro_rules | `(tactic| walk_at "n") => `(tactic| (dsimp only [tNext, gName]; refine seq_ ?_))
def RES : List Str := (["base", "extra", "needs", "bars", "above", "field", "timer", "event", "outer", "inner", "rule", "on", "ahead", "behind", "instead", "when", "do", "nothing", "raise", "tighten", "loosen", "by", "wish", "never", "if", "then", "reach", "yes", "no", "not", "and", "or", "tick", "papers", "claim", "row", "rank", "fault", "trap", "end", "run", "at", "start"] : List String).map Str.ofString
def DBL : List Str := ([":=", "/=", "<=", ">="] : List String).map Str.ofString
def top (i : Nat) : Stmt := PySem.Challenge.pw_extrasmeet_k01_tokens_and_names.main.body.getD i (.Pass ⟨0, 0, 0, 0⟩)
abbrev s_is_name : Stmt := top 5
abbrev N_is_name : List Str := ["word", "sign"]
theorem sc_is_name : FnScope N_is_name ["word"] (defScope s_is_name) := ⟨rfl, rfl, rfl, by decide +kernel, rfl, by decide +kernel, by decide +kernel⟩
abbrev s_is_run_sign : Stmt := top 8
abbrev N_is_run_sign : List Str := ["sign"]
theorem sc_is_run_sign : FnScope N_is_run_sign ["sign"] (defScope s_is_run_sign) := ⟨rfl, rfl, rfl, by decide +kernel, rfl, by decide +kernel, by decide +kernel⟩
abbrev s_end_of_run : Stmt := top 9
abbrev N_end_of_run : List Str := ["line", "place", "last"]
theorem sc_end_of_run : FnScope N_end_of_run ["line", "place"] (defScope s_end_of_run) := ⟨rfl, rfl, rfl, by decide +kernel, rfl, by decide +kernel, by decide +kernel⟩
abbrev s_tokens_of : Stmt := top 10
abbrev N_tokens_of : List Str := ["line", "found", "place", "last"]
theorem sc_tokens_of : FnScope N_tokens_of ["line"] (defScope s_tokens_of) := ⟨rfl, rfl, rfl, by decide +kernel, rfl, by decide +kernel, by decide +kernel⟩
abbrev s_is_number : Stmt := top 11
abbrev N_is_number : List Str := ["token", "sign"]
theorem sc_is_number : FnScope N_is_number ["token"] (defScope s_is_number) := ⟨rfl, rfl, rfl, by decide +kernel, rfl, by decide +kernel, by decide +kernel⟩
abbrev s__law_begin : Stmt := top 13
abbrev N__law_begin : List Str := ["script", "cell"]
theorem sc__law_begin : FnScope N__law_begin ["script"] (defScope s__law_begin) := ⟨rfl, rfl, rfl, by decide +kernel, rfl, by decide +kernel, by decide +kernel⟩
abbrev s__law_draw : Stmt := top 14
abbrev N__law_draw : List Str := ["d", "many", "found", "size"]
theorem sc__law_draw : FnScope N__law_draw ["d", "many"] (defScope s__law_draw) := ⟨rfl, rfl, rfl, by decide +kernel, rfl, by decide +kernel, by decide +kernel⟩
abbrev s__law_pick : Stmt := top 15
abbrev N__law_pick : List Str := ["d", "row"]
theorem sc__law_pick : FnScope N__law_pick ["d", "row"] (defScope s__law_pick) := ⟨rfl, rfl, rfl, by decide +kernel, rfl, by decide +kernel, by decide +kernel⟩
abbrev s__law_shuffled : Stmt := top 16
abbrev N__law_shuffled : List Str := ["d", "row", "left", "k"]
theorem sc__law_shuffled : FnScope N__law_shuffled ["d", "row"] (defScope s__law_shuffled) := ⟨rfl, rfl, rfl, by decide +kernel, rfl, by decide +kernel, by decide +kernel⟩
abbrev s__law_is_int : Stmt := top 17
abbrev N__law_is_int : List Str := ["thing"]
theorem sc__law_is_int : FnScope N__law_is_int ["thing"] (defScope s__law_is_int) := ⟨rfl, rfl, rfl, by decide +kernel, rfl, by decide +kernel, by decide +kernel⟩
abbrev s__law_same : Stmt := top 18
abbrev N__law_same : List Str := ["told", "due", "k"]
theorem sc__law_same : FnScope N__law_same ["told", "due"] (defScope s__law_same) := ⟨rfl, rfl, rfl, by decide +kernel, rfl, by decide +kernel, by decide +kernel⟩
abbrev s__law_reserved : Stmt := top 19
abbrev N__law_reserved : List Str := ["text"]
theorem sc__law_reserved : FnScope N__law_reserved [] (defScope s__law_reserved) := ⟨rfl, rfl, rfl, by decide +kernel, rfl, by decide +kernel, by decide +kernel⟩
abbrev s__law_is_name : Stmt := top 20
abbrev N__law_is_name : List Str := ["word", "small", "signs", "sign"]
theorem sc__law_is_name : FnScope N__law_is_name ["word"] (defScope s__law_is_name) := ⟨rfl, rfl, rfl, by decide +kernel, rfl, by decide +kernel, by decide +kernel⟩
abbrev s__law_is_number : Stmt := top 21
abbrev N__law_is_number : List Str := ["word", "sign"]
theorem sc__law_is_number : FnScope N__law_is_number ["word"] (defScope s__law_is_number) := ⟨rfl, rfl, rfl, by decide +kernel, rfl, by decide +kernel, by decide +kernel⟩
abbrev s__law_tokens : Stmt := top 22
abbrev N__law_tokens : List Str := ["line", "runs", "found", "touching", "sign", "last"]
theorem sc__law_tokens : FnScope N__law_tokens ["line"] (defScope s__law_tokens) := ⟨rfl, rfl, rfl, by decide +kernel, rfl, by decide +kernel, by decide +kernel⟩
abbrev s__law_run : Stmt := top 23
abbrev N__law_run : List Str := ["d", "signs", "many", "k"]
theorem sc__law_run : FnScope N__law_run ["d", "signs", "many"] (defScope s__law_run) := ⟨rfl, rfl, rfl, by decide +kernel, rfl, by decide +kernel, by decide +kernel⟩
abbrev s__law_digits : Stmt := top 24
abbrev N__law_digits : List Str := ["d", "many"]
theorem sc__law_digits : FnScope N__law_digits ["d"] (defScope s__law_digits) := ⟨rfl, rfl, rfl, by decide +kernel, rfl, by decide +kernel, by decide +kernel⟩
abbrev s__law_short : Stmt := top 25
abbrev N__law_short : List Str := ["d", "many", "small"]
theorem sc__law_short : FnScope N__law_short ["d", "many"] (defScope s__law_short) := ⟨rfl, rfl, rfl, by decide +kernel, rfl, by decide +kernel, by decide +kernel⟩
abbrev s__law_near : Stmt := top 26
abbrev N__law_near : List Str := ["d", "word", "k", "way"]
theorem sc__law_near : FnScope N__law_near ["d", "word"] (defScope s__law_near) := ⟨rfl, rfl, rfl, by decide +kernel, rfl, by decide +kernel, by decide +kernel⟩
abbrev s__law_sign : Stmt := top 27
abbrev N__law_sign : List Str := ["d", "menu"]
theorem sc__law_sign : FnScope N__law_sign ["d"] (defScope s__law_sign) := ⟨rfl, rfl, rfl, by decide +kernel, rfl, by decide +kernel, by decide +kernel⟩
abbrev s__law_any_sign : Stmt := top 28
abbrev N__law_any_sign : List Str := ["d"]
theorem sc__law_any_sign : FnScope N__law_any_sign ["d"] (defScope s__law_any_sign) := ⟨rfl, rfl, rfl, by decide +kernel, rfl, by decide +kernel, by decide +kernel⟩
abbrev s__law_piece : Stmt := top 29
abbrev N__law_piece : List Str := ["d", "kind"]
theorem sc__law_piece : FnScope N__law_piece ["d"] (defScope s__law_piece) := ⟨rfl, rfl, rfl, by decide +kernel, rfl, by decide +kernel, by decide +kernel⟩
abbrev s__law_line : Stmt := top 30
abbrev N__law_line : List Str := ["d", "many", "text", "k"]
theorem sc__law_line : FnScope N__law_line ["d", "many"] (defScope s__law_line) := ⟨rfl, rfl, rfl, by decide +kernel, rfl, by decide +kernel, by decide +kernel⟩
abbrev s__law_sure_line : Stmt := top 31
abbrev N__law_sure_line : List Str := ["d", "digits", "runs", "signs", "text", "k", "many"]
theorem sc__law_sure_line : FnScope N__law_sure_line ["d"] (defScope s__law_sure_line) := ⟨rfl, rfl, rfl, by decide +kernel, rfl, by decide +kernel, by decide +kernel⟩
abbrev s__law_words : Stmt := top 32
abbrev N__law_words : List Str := ["d", "name", "near", "k", "words"]
theorem sc__law_words : FnScope N__law_words ["d"] (defScope s__law_words) := ⟨rfl, rfl, rfl, by decide +kernel, rfl, by decide +kernel, by decide +kernel⟩
abbrev s_law : Stmt := top 33
abbrev N_law : List Str := ["script", "d", "first", "second", "lines", "words", "dues", "k", "due", "token", "word", "line"]
theorem sc_law : FnScope N_law ["script"] (defScope s_law) := ⟨rfl, rfl, rfl, by decide +kernel, rfl, by decide +kernel, by decide +kernel⟩
structure Top (K : PySem.W.Frag) (mg : Str → Option Value) : Prop where
  b_abs : mg "abs" = none
  b_bool : mg "bool" = none
  b_int : mg "int" = none
  b_isinstance : mg "isinstance" = none
  b_len : mg "len" = none
  b_list : mg "list" = none
  b_range : mg "range" = none
  b_str : mg "str" = none
  b_tuple : mg "tuple" = none
  d_is_name : Df K mg "is_name" s_is_name ["word"]
  d_is_run_sign : Df K mg "is_run_sign" s_is_run_sign ["sign"]
  d_end_of_run : Df K mg "end_of_run" s_end_of_run ["line", "place"]
  d_tokens_of : Df K mg "tokens_of" s_tokens_of ["line"]
  d_is_number : Df K mg "is_number" s_is_number ["token"]
  d__law_begin : Df K mg "_law_begin" s__law_begin ["script"]
  d__law_draw : Df K mg "_law_draw" s__law_draw ["d", "many"]
  d__law_pick : Df K mg "_law_pick" s__law_pick ["d", "row"]
  d__law_shuffled : Df K mg "_law_shuffled" s__law_shuffled ["d", "row"]
  d__law_is_int : Df K mg "_law_is_int" s__law_is_int ["thing"]
  d__law_same : Df K mg "_law_same" s__law_same ["told", "due"]
  d__law_reserved : Df K mg "_law_reserved" s__law_reserved []
  d__law_is_name : Df K mg "_law_is_name" s__law_is_name ["word"]
  d__law_is_number : Df K mg "_law_is_number" s__law_is_number ["word"]
  d__law_tokens : Df K mg "_law_tokens" s__law_tokens ["line"]
  d__law_run : Df K mg "_law_run" s__law_run ["d", "signs", "many"]
  d__law_digits : Df K mg "_law_digits" s__law_digits ["d"]
  d__law_short : Df K mg "_law_short" s__law_short ["d", "many"]
  d__law_near : Df K mg "_law_near" s__law_near ["d", "word"]
  d__law_sign : Df K mg "_law_sign" s__law_sign ["d"]
  d__law_any_sign : Df K mg "_law_any_sign" s__law_any_sign ["d"]
  d__law_piece : Df K mg "_law_piece" s__law_piece ["d"]
  d__law_line : Df K mg "_law_line" s__law_line ["d", "many"]
  d__law_sure_line : Df K mg "_law_sure_line" s__law_sure_line ["d"]
  d__law_words : Df K mg "_law_words" s__law_words ["d"]
  d_law : Df K mg "law" s_law ["script"]
  g_LETTERS : ∃ u, mg "LETTERS" = some u ∧ RelV (.str "abcdefghijklmnopqrstuvwxyz") u
  g_DIGITS : ∃ u, mg "DIGITS" = some u ∧ RelV (.str "0123456789") u
  g_CAPITALS : ∃ u, mg "CAPITALS" = some u ∧ RelV (.str "ABCDEFGHIJKLMNOPQRSTUVWXYZ") u
  g_RESERVED : ∃ a, mg "RESERVED" = some (.ref a) ∧ ∀ H, SqT K H a (RES.map V.str)
  g_DOUBLE_SIGNS : ∃ a, mg "DOUBLE_SIGNS" = some (.ref a) ∧ ∀ H, SqT K H a (DBL.map V.str)

/-- what the draws are made of: d's cells, the script's numbers at sc -/
structure Dr (H : Hp) (d sc : Addr) : Prop where
  ne : sc ≠ d
  ex : ∃ (ns : List Int) (p f s z : Int), H sc = some (.lst (ns.map V.int)) ∧ H d = some (.lst [.ref sc, .int p, .int f, .int s, .int z]) ∧ 0 ≤ p ∧ 0 ≤ f ∧ 0 ≤ s ∧ s < 2147483647 ∧ ns.length ≤ 63
theorem Dr.f {H H' : Hp} {S : List Addr} {d sc : Addr} (h : Dr H d sc) (F : Fr S H H') (n1 : d ∉ S) (n2 : sc ∉ S) : Dr H' d sc := by
  obtain ⟨ne, ns, p, f, s, z, h1, h2, r⟩ := h
  exact ⟨ne, ns, p, f, s, z, F.md _ _ h1 n2, F.md _ _ h2 n1, r⟩
theorem Dr.new {H : Hp} {d sc L : Addr} {o : HO} (h : Dr H d sc) (hL : H L = none) : Dr (upd H L o) d sc := h.f (Fr.new (S := []) hL) (by simp) (by simp)
/-- a fresh address is neither -/
theorem Dr.ne_d {H : Hp} {d sc L : Addr} (h : Dr H d sc) (hL : H L = none) : L ≠ d := by
  obtain ⟨_, ns, p, f, s, z, _, h2, _⟩ := h
  exact fun e => by rw [e, h2] at hL; cases hL
theorem Dr.ne_sc {H : Hp} {d sc L : Addr} (h : Dr H d sc) (hL : H L = none) : L ≠ sc := by
  obtain ⟨_, ns, p, f, s, z, h2, _⟩ := h
  exact fun e => by rw [e, h2] at hL; cases hL
/-- a list beside is written -/
theorem Dr.put {H : Hp} {d sc L : Addr} {o : HO} (h : Dr H d sc) (n1 : L ≠ d) (n2 : L ≠ sc) : Dr (upd H L o) d sc := by
  obtain ⟨ne, ns, p, f, s, z, h1, h2, r⟩ := h
  exact ⟨ne, ns, p, f, s, z, by rw [upd_ne n2.symm]; exact h1, by rw [upd_ne n1.symm]; exact h2, r⟩
section
variable {P : Program} {w : World} {K : PySem.W.Frag} {mg : Str → Option Value} {base : Heap}
theorem cut_int (ns : List Int) (lo hi : Option Int) : ∃ ms : List Int, cutV (ns.map V.int) lo hi = ms.map V.int ∧ ms.length ≤ ns.length := by
  unfold cutV
  rw [← List.map_drop, ← List.map_take]
  refine ⟨_, rfl, ?_⟩
  rw [List.length_take, List.length_drop]
  omega
theorem map_int {ns : List Int} {i : Nat} {x : V} (h : (ns.map V.int)[i]? = some x) : ∃ n, x = .int n := by
  rw [List.getElem?_map] at h
  cases e : ns[i]? with
  | none => rw [e] at h; cases h
  | some n => rw [e] at h; exact ⟨n, (Option.some.inj h).symm⟩
theorem at_int {ns : List Int} {i : Int} (h0 : 0 ≤ i) (h1 : i < (ns.length : Int)) : ∃ c, atI (ns.map V.int) i = some (.int c) := by
  have e : i = ((i.toNat : Nat) : Int) := by omega
  have hl : i.toNat < ns.length := by omega
  rw [e]
  exact ⟨ns[i.toNat], atI_nat (by rw [List.getElem?_map, List.getElem?_eq_getElem hl]; rfl)⟩
def spBegin (K : PySem.W.Frag) : Sp := fun vs H Q _ => ∃ (a : Addr) (ns : List Int), vs = [.ref a] ∧ SqL K H a (ns.map V.int) ∧ ns.length ≤ 63 ∧
  ∀ d sc H', H d = none → H sc = none → Fr [] H H' → Dr H' d sc → Q (.ref d) H'
theorem ok_law_begin (T : Top K mg) : Cal P w K mg base 1 "_law_begin" (spBegin K) := by
  refine cal T.d__law_begin sc__law_begin (fun vs H Q E h => ?_) (fun f cdv A outer s H vs Q E hr h => ?_)
  · obtain ⟨a, ns, rfl, _⟩ := h
    rfl
  · obtain ⟨a, ns, rfl, hS, hl, k⟩ := h
    refine ⟨_, (pss_one (ps_ret (pe_lst (pa_cons (pe_slice (G.slL (K := K)) (pe_lc (own := [("cell", 1)]) rfl sc__law_begin.nd (G.piL (K := K) (pv 0)) (blkOk_by (N := N__law_begin) (sc := defScope s__law_begin) (by decide +kernel)) (fun _ _ _ _ _ => (pg_name (i := 1) sc__law_begin.nd rfl (Or.inl rfl))) (fun _ _ _ _ _ => pts_nil) (fun _ _ _ _ _ => (pe_callTy call_int1 (by rfl) T.b_int (by decide +kernel) (pa_cons (pv 1) pa_nil)))) po_none (po_some pe_int)) (pa_cons pe_int (pa_cons pe_int (pa_cons pe_int (pa_cons pe_int pa_nil)))))))), ?_⟩
    refine ⟨_, rfl, a, rfl, ⟨_, hS⟩, fun D hD => lc_list (K := K) (a := a) (xs := ns.map V.int) (fun i H' => ∃ ms : List Int, H' D = some (.lst (ms.map V.int)) ∧ ms.length ≤ i ∧ Fr [] H H')
      ⟨[], upd_same, Nat.le_refl _, Fr.new hD⟩ (fun i H' _ ⟨_, _, _, F⟩ => F.sqL hS (by simp)) ?_ ?_⟩
    · rintro i x H1 hx ⟨ms, h1, h2, F1⟩
      obtain ⟨n, rfl⟩ := map_int hx
      have hi : i < ns.length := by
        have q := (List.getElem?_eq_some_iff.mp hx).1
        rwa [List.length_map] at q
      refine ⟨rfl, ?_⟩
      refine lc_yes ?_
      refine ⟨_, rfl, .inl ⟨n, rfl, _, h1, ?_, ms ++ [n], ?_, ?_, ?_⟩⟩
      · rw [List.length_map]; show ms.length < 2 ^ 24; omega
      · rw [upd_same]; simp
      · simp; omega
      · refine ⟨fun b o e _ => ?_, fun b xs e => ?_⟩
        · rw [upd_ne (ne_of_none e hD)]; exact F1.md _ _ e (by simp)
        · exact (Fr.putL (S := [D]) (by simp) h1).kp _ _ (F1.kp _ _ e)
    · rintro H1 ⟨ms, h1, h2, F1⟩
      rw [List.length_map] at h2
      refine ⟨_, rfl, D, _, rfl, SqL.of h1, fun sc hsc => ?_⟩
      obtain ⟨cs, hcs, hcl⟩ := cut_int ms none (some 63)
      refine ⟨sz100 rfl, fun d hd => ?_⟩
      have ne : sc ≠ d := ne_of_none upd_same hd
      have F2 := F1.trans (Fr.new (o := .lst (cutV (ms.map V.int) none (some 63))) hsc)
      refine k d sc _ (F2.fresh hd (by simp)) (F1.fresh hsc (by simp)) (F2.trans (Fr.new hd)) ⟨ne, cs, 0, 0, 7, 0, by rw [upd_ne ne, upd_same, hcs], upd_same, ?_⟩
      refine ⟨?_, ?_, ?_, ?_, ?_⟩ <;> omega
def spDraw : Sp := fun vs H Q _ => ∃ (d sc : Addr) (n : Int), vs = [.ref d, .int n] ∧ Dr H d sc ∧ 0 < n ∧ n < 2 ^ 64 ∧ ∀ r H', 0 ≤ r → r < n → Fr [d] H H' → Dr H' d sc → Q (.int r) H'
theorem ok_law_draw (T : Top K mg) : Cal P w K mg base 1 "_law_draw" spDraw := by
  refine cal T.d__law_draw sc__law_draw (fun vs H Q E h => ?_) (fun f cdv A outer s H vs Q E hr h => ?_)
  · obtain ⟨d, sc, n, rfl, _⟩ := h
    rfl
  · obtain ⟨d, sc, n, rfl, ⟨ne, ns, p, fo, sd, z, hsc, hd, p0, f0, s0, s1, nl⟩, n0, n1, k⟩ := h
    refine ⟨_, (pss_cons (ps_set (i := 2) sc__law_draw.nd rfl (Or.inl rfl) (pe_ix (G.ixL (K := K)) (pv 0) pe_int (fun _ _ => rfl)))
    (C8.pss_cut (ps_if (pt_cmpR op_eq (pv 2) pe_int (nomark _))
      (pss_cons (ps_set (i := 3) sc__law_draw.nd rfl (Or.inl rfl) pe_int)
    (C8.pss_cut (ps_if (pt_cmpR op_lt (pe_ix (G.ixL (K := K)) (pv 0) pe_int (fun _ _ => rfl)) (pe_callB (G.lenA (K := K)) (by rfl) T.b_len (by decide +kernel) (pa_cons (pe_ix (G.ixL (K := K)) (pv 0) pe_int (fun _ _ => rfl)) pa_nil)) (nomark _))
      (pss_one (ps_set (i := 3) sc__law_draw.nd rfl (Or.inl rfl) (pe_op op_add (pe_op op_mul pe_int (pe_callB call_abs (by rfl) T.b_abs (by decide +kernel) (pa_cons (pe_ix (G.ixL (K := K)) (pe_ix (G.ixL (K := K)) (pv 0) pe_int (fun _ _ => rfl)) (pe_ix (G.ixL (K := K)) (pv 0) pe_int (fun _ _ => rfl)) (fun _ _ => rfl)) pa_nil))) (pe_callTy call_int1 (by rfl) T.b_int (by decide +kernel) (pa_cons (pe_cmpR op_lt (pe_ix (G.ixL (K := K)) (pe_ix (G.ixL (K := K)) (pv 0) pe_int (fun _ _ => rfl)) (pe_ix (G.ixL (K := K)) (pv 0) pe_int (fun _ _ => rfl)) (fun _ _ => rfl)) pe_int (nomark _)) pa_nil)))))
      pss_nil)
    (pss_cons (ps_augS (pv 0) pe_int (G.getL (K := K)) pe_int ip_add set_list)
    (pss_cons (ps_if (pt_cmpR op_lt (pv 3) (pe_op op_mul pe_int (pe_op op_pow pe_int pe_int)) (nomark _))
      (pss_cons (ps_asg (pe_op op_mod (pe_callTy call_int1 (by rfl) T.b_int (by decide +kernel) (pa_cons (pe_op op_add (pe_op op_add (pe_op op_add (pe_op op_mul (pe_ix (G.ixL (K := K)) (pv 0) pe_int (fun _ _ => rfl)) pe_int) (pe_op op_mul (pe_op op_mod (pe_callTy call_int1 (by rfl) T.b_int (by decide +kernel) (pa_cons (pv 3) pa_nil)) pe_int) pe_int)) (pe_op op_mul (pe_ix (G.ixL (K := K)) (pv 0) pe_int (fun _ _ => rfl)) pe_int)) pe_int) pa_nil)) pe_int) (pg_sub (pv 0) pe_int set_list))
    (pss_one (ps_ret (pe_op op_mod (pe_callTy call_int1 (by rfl) T.b_int (by decide +kernel) (pa_cons (pe_op op_fdivW (pe_ix (G.ixL (K := K)) (pv 0) pe_int (fun _ _ => rfl)) pe_int) pa_nil)) (pv 1)))))
      pss_nil)
    (pss_one (ps_set (i := 2) sc__law_draw.nd rfl (Or.inl rfl) (pe_op op_mod (pe_callTy call_int1 (by rfl) T.b_int (by decide +kernel) (pa_cons (pe_op op_fdivW (pv 3) pe_int) pa_nil)) (pe_op op_shl pe_int pe_int))))))))
      pss_nil)
    (pss_cons (ps_asg (pe_op op_fdivW (pv 2) (pv 1)) (pg_sub (pv 0) pe_int set_list))
    (pss_one (ps_ret (pe_op op_mod (pe_callTy call_int1 (by rfl) T.b_int (by decide +kernel) (pa_cons (pv 2) pa_nil)) (pv 1))))))), ?_⟩
    walk_at "r"
    refine ⟨fun σ H' => ∃ (p' f' g' s' : Int) (v : Option V), σ = [some (.ref d), some (.int n), some (.int f'), v] ∧ H' sc = some (.lst (ns.map V.int)) ∧ H' d = some (.lst [.ref sc, .int p', .int g', .int s', .int z]) ∧
      Fr [d] H H' ∧ 0 ≤ p' ∧ 0 ≤ f' ∧ 0 ≤ s' ∧ s' < 2147483647, ?_, ?_⟩
    · walk_at "r"
      refine if_both (fun e => ?_) (fun e => ?_)
      · walk_at "r"
        refine ⟨fun σ H' => ∃ x : Int, 0 ≤ x ∧ σ = [some (.ref d), some (.int n), some (.int fo), some (.int x)] ∧ H' = H, ?_, ?_⟩
        · walk_at "r"
          refine if_both (fun e2 => ?_) (fun e2 => ?_)
          · walk_at "r"
            obtain ⟨c, hc⟩ := at_int p0 (by rwa [List.length_map] at e2)
            refine ⟨_, _, _, _, rfl, rfl, SqL.of hsc, hc, ?_⟩
            walk_at "r"
            refine ⟨_, _, _, _, rfl, rfl, SqL.of hsc, hc, ?_⟩
            walk_at "r"
            refine ⟨_, ?_, rfl, rfl⟩
            show 0 ≤ 2 * (if c < 0 then -c else c) + (if decide (c < 0) = true then 1 else 0)
            split <;> split <;> omega
          · exact ⟨0, by omega, rfl, rfl⟩
        · rintro σ H' ⟨x, x0, rfl, rfl⟩
          walk_at "r"
          refine ⟨_, _, _, _, rfl, rfl, by omega, SqL.of hd, rfl, ?_⟩
          walk_at "r"
          have F1 : Fr [d] H' (upd H' d (.lst [.ref sc, .int (p + 1), .int fo, .int sd, .int z])) := Fr.putL (by simp) hd
          have hd1 : upd H' d (.lst [.ref sc, .int (p + 1), .int fo, .int sd, .int z]) d = some (.lst [.ref sc, .int (p + 1), .int fo, .int sd, .int z]) := upd_same
          have hs1 : upd H' d (.lst [.ref sc, .int (p + 1), .int fo, .int sd, .int z]) sc = some (.lst (ns.map V.int)) := by rw [upd_ne ne]; exact hsc
          refine if_both (fun e2 => ?_) (fun e2 => ?_)
          · walk_at "r"
            refine ⟨_, _, _, _, rfl, rfl, SqL.of upd_same, rfl, ?_⟩
            walk_at "r"
            refine k _ _ (Int.emod_nonneg _ (by omega)) (Int.emod_lt_of_pos _ n0) (F1.trans (Fr.putL (by simp) hd1)) ⟨ne, ns, p + 1, fo, _, z, by rw [upd_ne ne]; exact hs1, upd_same, by omega, f0, Int.emod_nonneg _ (by omega), Int.emod_lt_of_pos _ (by omega), nl⟩
          · walk_at "r"
            have pw : (0 : Int) < 1 * 2 ^ Int.toNat 4000 := by rw [Int.one_mul]; exact Int.pow_pos (by decide)
            refine ⟨p + 1, _, fo, sd, _, rfl, hs1, hd1, F1, by omega, Int.emod_nonneg _ (Int.ne_of_gt pw), s0, s1⟩
      · exact ⟨p, fo, fo, sd, none, rfl, hsc, hd, Fr.refl _, p0, f0, s0, s1⟩
    · rintro σ H' ⟨p', f', g', s', v, rfl, gsc, gd, F, g0, g1, g2, g3⟩
      walk_at "r"
      exact k _ _ (Int.emod_nonneg _ (by omega)) (Int.emod_lt_of_pos _ n0) (F.trans (Fr.putL (by simp) gd)) ⟨ne, ns, p', f' / n, s', z, by rw [upd_ne ne]; exact gsc, upd_same, g0, Int.ediv_nonneg g1 (by omega), g2, g3, nl⟩
end

/-- what a row has: the items of a list, of a tuple, the signs of a text -/
def RowV (K : PySem.W.Frag) (H : Hp) (x : V) (items : List V) : Prop := match x with
  | .ref a => SqL K H a items ∨ SqT K H a items
  | .str z => z.length ≤ sizeLine ∧ items = z.cps.toList.map fun c => .str ⟨#[c]⟩
  | _ => False
section
variable {P : Program} {w : World} {K : PySem.W.Frag} {mg : Str → Option Value} {base : Heap}
theorem RowV.len {H : Hp} {x : V} {items : List V} (h : RowV K H x items) : LenV K x H items.length := by
  cases x with
  | ref a =>
    rcases h with h | h
    · exact Or.inl ⟨_, h, rfl⟩
    · exact Or.inr ⟨_, h, rfl⟩
  | str z =>
    obtain ⟨h1, h2⟩ := h
    refine ⟨h1, ?_⟩
    rw [h2]; simp [Str.length]
  | _ => exact h.elim
theorem RowV.f {H H' : Hp} {S : List Addr} {x : V} {items : List V} (h : RowV K H x items) (F : Fr S H H') (n : ∀ a, x = .ref a → a ∉ S) : RowV K H' x items := by
  cases x with
  | ref a =>
    rcases h with h | h
    · exact Or.inl (F.sqL h (n a rfl))
    · exact Or.inr (F.sqT h)
  | str z => exact h
  | _ => exact h.elim
theorem RowV.ix {H : Hp} {x : V} {items : List V} {i : Int} {Q : VK} (h : RowV K H x items) (h0 : 0 ≤ i) (h1 : i < (items.length : Int)) (q : ∀ v, v ∈ items → Q v H) : rIx K x (.int i) H Q := by
  have e : i = ((i.toNat : Nat) : Int) := by omega
  have hl : i.toNat < items.length := by omega
  cases x with
  | ref a =>
    have hat : atI items i = some items[i.toNat] := at_get h0 hl
    have qq := q _ (List.getElem_mem hl)
    rcases h with h | h
    · exact Or.inl ⟨a, items, i, _, rfl, rfl, h, hat, qq⟩
    · exact Or.inr (Or.inl ⟨a, items, i, _, rfl, rfl, h, hat, qq⟩)
  | str z =>
    obtain ⟨h2, h3⟩ := h
    subst h3
    rw [List.length_map] at hl
    refine Or.inr (Or.inr ⟨z, i, z.cps.toList[i.toNat], rfl, rfl, h2, ?_, q _ ?_⟩)
    · exact at_get h0 hl
    · exact List.mem_map.mpr ⟨_, List.getElem_mem hl, rfl⟩
  | _ => exact h.elim
def spPick (K : PySem.W.Frag) : Sp := fun vs H Q _ => ∃ (d sc : Addr) (row : V) (items : List V), vs = [.ref d, row] ∧ Dr H d sc ∧ RowV K H row items ∧ 0 < items.length ∧ items.length < 2 ^ 60 ∧ row ≠ .ref d ∧
  ∀ v H', v ∈ items → Fr [d] H H' → Dr H' d sc → Q v H'
theorem ok_law_pick (T : Top K mg) : Cal P w K mg base 2 "_law_pick" (spPick K) := by
  have c__law_draw : Cal P w K mg base 1 "_law_draw" spDraw := ok_law_draw T
  refine cal T.d__law_pick sc__law_pick (fun vs H Q E h => ?_) (fun f cdv A outer s H vs Q E hr h => ?_)
  · obtain ⟨d, sc, row, items, rfl, _⟩ := h
    rfl
  · obtain ⟨d, sc, row, items, rfl, hD, hR, h0, h1, hne, k⟩ := h
    refine ⟨_, (pss_one (ps_ret (pe_ix (G.ixQ (K := K)) (pv 1) (G.pe_c c__law_draw hr (by omega) rfl (pa_cons (pv 0) (pa_cons (pe_callB (G.lenA (K := K)) (by rfl) T.b_len (by decide +kernel) (pa_cons (pv 1) pa_nil)) pa_nil))) (fun _ _ => rfl)))), ?_⟩
    walk_at "r"
    refine ⟨_, _, rfl, hR.len, fun _ => ?_⟩
    refine go ⟨d, sc, _, rfl, hD, by omega, by omega, fun r H1 r0 r1 F1 D1 => ?_⟩
    exact (hR.f F1 (fun a e z => hne (by rw [e, List.mem_singleton.mp z]))).ix r0 r1 fun v hv => k v H1 hv F1 D1

/-! ### the two told things are the same, type by type -/
def D.isInt : D → Bool
  | .int _ => true
  | _ => false
def spIsInt (K : PySem.W.Frag) : Sp := fun vs H Q _ => ∃ (v : V) (d : D), vs = [v] ∧ Da K H v d ∧ Q (.bl (D.isInt d)) H
theorem ok_law_is_int (T : Top K mg) : Cal P w K mg base 1 "_law_is_int" (spIsInt K) := by
  refine cal T.d__law_is_int sc__law_is_int (fun vs H Q E h => ?_) (fun f cdv A outer s H vs Q E hr h => ?_)
  · obtain ⟨v, d, rfl, _⟩ := h
    rfl
  · obtain ⟨v, d, rfl, hd, k⟩ := h
    refine ⟨_, (pss_one (ps_ret (pe_and (pe_callB (G.isiA (K := K)) (by rfl) T.b_isinstance (by decide +kernel) (pa_cons (pv 0) (pa_cons (G.tyN (n := "int") (by rfl) T.b_int (by decide +kernel)) pa_nil))) (pe_one (pe_not (pe_callB (G.isiA (K := K)) (by rfl) T.b_isinstance (by decide +kernel) (pa_cons (pv 0) (pa_cons (G.tyN (n := "bool") (by rfl) T.b_bool (by decide +kernel)) pa_nil)))))))), ?_⟩
    cases hd <;> walk_at "r" <;> exact k
def spSame (K : PySem.W.Frag) (n : Nat) : Sp := fun vs H Q _ => ∃ (v u : V) (d e : D), vs = [v, u] ∧ Da K H v d ∧ Da K H u e ∧ e.depth ≤ n ∧ ∀ H', Fr [] H H' → Q (.bl (D.same d e)) H'
theorem ok_law_same (T : Top K mg) : ∀ n, Cal P w K mg base (n + 2) "_law_same" (spSame K n)
  | 0 => by
    refine cal T.d__law_same sc__law_same (fun vs H Q E h => ?_) (fun f cdv A outer s H vs Q E hr h => ?_)
    · obtain ⟨v, u, d, e, rfl, _⟩ := h
      rfl
    · obtain ⟨v, u, d, e, rfl, _, _, hd, _⟩ := h
      cases e <;> simp [D.depth] at hd
  | n + 1 => by
    have c__law_same := ok_law_same T n
    have c__law_is_int : Cal P w K mg base 1 "_law_is_int" (spIsInt K) := ok_law_is_int T
    refine cal T.d__law_same sc__law_same (fun vs H Q E h => ?_) (fun f cdv A outer s H vs Q E hr h => ?_)
    · obtain ⟨v, u, d, e, rfl, _⟩ := h
      rfl
    · obtain ⟨v, u, d, e, rfl, hd, he, hn, k⟩ := h
      refine ⟨_, (pss_cons (ps_if (pt_val (pe_callB (G.isiA (K := K)) (by rfl) T.b_isinstance (by decide +kernel) (pa_cons (pv 1) (pa_cons (G.tyN (n := "tuple") (by rfl) T.b_tuple (by decide +kernel)) pa_nil))))
      (pss_cons (ps_if (PW.pt (pw_or (pt_not (pt_val (pe_callB (G.isiA (K := K)) (by rfl) T.b_isinstance (by decide +kernel) (pa_cons (pv 0) (pa_cons (G.tyN (n := "tuple") (by rfl) T.b_tuple (by decide +kernel)) pa_nil))))) (pw_or1 (pt_cmpR op_ne (pe_callB (G.lenA (K := K)) (by rfl) T.b_len (by decide +kernel) (pa_cons (pv 0) pa_nil)) (pe_callB (G.lenA (K := K)) (by rfl) T.b_len (by decide +kernel) (pa_cons (pv 1) pa_nil)) (nomark _)))))
      (pss_one (ps_ret pe_bl))
      pss_nil)
    (pss_one (ps_ret (pe_cmpR op_eq (pe_callB (G.lenA (K := K)) (by rfl) T.b_len (by decide +kernel) (pa_cons (pe_lc (own := [("k", 2)]) rfl sc__law_same.nd (pi_range1 (by rfl) T.b_range (pa_cons (pe_callB (G.lenA (K := K)) (by rfl) T.b_len (by decide +kernel) (pa_cons (pv 1) pa_nil)) pa_nil)) (blkOk_by (N := N__law_same) (sc := defScope s__law_same) (by decide +kernel)) (fun _ _ _ _ _ => (pg_name (i := 2) sc__law_same.nd rfl (Or.inl rfl))) (fun _ _ _ _ _ => (pts_one (pt_not (pt_val (G.pe_c c__law_same hr (by omega) rfl (pa_cons (pe_ix (G.ixT (K := K)) (pv 0) (pv 2) (fun _ _ => rfl)) (pa_cons (pe_ix (G.ixT (K := K)) (pv 1) (pv 2) (fun _ _ => rfl)) pa_nil))))))) (fun _ _ _ _ _ => (pv 2))) pa_nil)) pe_int (nomark _)))))
      pss_nil)
    (pss_cons (ps_if (pt_cmpR op_isN (pv 1) pe_non (nomark _))
      (pss_one (ps_ret (pe_cmpR op_isN (pv 0) pe_non (nomark _))))
      pss_nil)
    (pss_cons (ps_if (pt_val (pe_callB (G.isiA (K := K)) (by rfl) T.b_isinstance (by decide +kernel) (pa_cons (pv 1) (pa_cons (G.tyN (n := "bool") (by rfl) T.b_bool (by decide +kernel)) pa_nil))))
      (pss_one (ps_ret (pe_and (pe_callB (G.isiA (K := K)) (by rfl) T.b_isinstance (by decide +kernel) (pa_cons (pv 0) (pa_cons (G.tyN (n := "bool") (by rfl) T.b_bool (by decide +kernel)) pa_nil))) (pe_one (pe_cmpR op_eq (pv 0) (pv 1) (nomark _))))))
      pss_nil)
    (pss_one (ps_ret (pe_and (pe_ifExp (pt_val (pe_callB (G.isiA (K := K)) (by rfl) T.b_isinstance (by decide +kernel) (pa_cons (pv 1) (pa_cons (G.tyN (n := "int") (by rfl) T.b_int (by decide +kernel)) pa_nil)))) (G.pe_c c__law_is_int hr (by omega) rfl (pa_cons (pv 0) pa_nil)) (pe_callB (G.isiA (K := K)) (by rfl) T.b_isinstance (by decide +kernel) (pa_cons (pv 0) (pa_cons (G.tyN (n := "str") (by rfl) T.b_str (by decide +kernel)) pa_nil)))) (pe_one (pe_cmpR op_eq (pv 0) (pv 1) (nomark _))))))))), ?_⟩
      cases he with
      | non => cases hd <;> walk_at "r" <;> exact q_bl (k _ (Fr.refl _)) (by simp [D.same])
      | bl b => cases hd <;> walk_at "r" <;> exact q_bl (k _ (Fr.refl _)) (by simp [D.same])
      | int b =>
        have hd' := hd
        cases hd <;> walk_at "r" <;> refine go ⟨_, _, rfl, hd', ?_⟩ <;> walk_at "r" <;> exact q_bl (k _ (Fr.refl _)) (by simp [D.same])
      | str b => cases hd <;> walk_at "r" <;> exact q_bl (k _ (Fr.refl _)) (by simp [D.same])
      | @tup a ys es hT hs =>
        cases hd with
        | @tup b xs ds gT gs =>
          walk_at "r"
          refine ifn_both (fun e => ?_) (fun e => ?_)
          · walk_at "r"
            refine q_bl (k _ (Fr.refl _)) ?_
            cases z : D.same (.tup ds) (.tup es) with
            | false => rfl
            | true =>
              have := D.eq_of z
              injection this with this
              subst this
              exact absurd (by rw [gs.len, hs.len]) e
          · have hl : xs.length = ys.length := by have := V.int.inj e; omega
            have hle : ds.length = es.length := by rw [← gs.len, ← hs.len, hl]
            walk_at "r"
            intro L hL
            refine lc_range (fun i H' => ∃ ms : List Int, H' L = some (.lst (ms.map V.int)) ∧ ms.length ≤ i ∧ Fr [] H H' ∧ (ms = [] ↔ ∀ j x y, j < i → ds[j]? = some x → es[j]? = some y → D.same x y = true))
              ⟨[], upd_same, Nat.le_refl _, Fr.new hL, by simp⟩ ?_ ?_
            · rintro i H1 hi ⟨ms, h1, h2, F1, h3⟩
              rw [Int.toNat_natCast] at hi
              have hi2 : i < xs.length := by omega
              have hy : ys[i]? = some ys[i] := List.getElem?_eq_getElem hi
              have hx : xs[i]? = some xs[i] := List.getElem?_eq_getElem hi2
              obtain ⟨ey, he1, he2⟩ := hs.get hy
              obtain ⟨dx, hd1, hd2⟩ := gs.get hx
              refine ⟨rfl, ?_⟩
              walk_at "r"
              refine ⟨_, _, _, _, rfl, rfl, F1.sqT gT, by rw [Int.zero_add]; exact atI_nat hx, ?_⟩
              walk_at "r"
              refine ⟨_, _, _, _, rfl, rfl, F1.sqT hT, by rw [Int.zero_add]; exact atI_nat hy, ?_⟩
              refine go ⟨_, _, dx, ey, rfl, hd2.f F1, he2.f F1, by have := D.depth_mem he1; simp only [D.depth] at hn; omega, fun H2 F2 => ?_⟩
              have step : ∀ (b : Bool), D.same dx ey = b → ((ms = [] ∧ b = true) ↔ ∀ j x y, j < i + 1 → ds[j]? = some x → es[j]? = some y → D.same x y = true) := by
                intro b hb
                rw [h3]
                constructor
                · rintro ⟨h, rfl⟩ j x y hj ex ey'
                  by_cases hji : j = i
                  · subst hji
                    rw [hd1] at ex; rw [he1] at ey'
                    cases ex; cases ey'
                    exact hb
                  · exact h j x y (by omega) ex ey'
                · intro h
                  exact ⟨fun j x y hj => h j x y (by omega), by rw [← hb]; exact h i dx ey (by omega) hd1 he1⟩
              walk_at "r"
              cases hb : D.same dx ey with
              | true => exact ⟨ms, F2.md _ _ h1 (by simp), by omega, F1.trans F2, by rw [← step true hb]; simp⟩
              | false =>
                refine ⟨_, rfl, _, F2.md _ _ h1 (by simp), ?_, ms ++ [0 + (i : Int)], by rw [upd_same]; simp, by simp; omega, (F1.trans F2).mut hL, by rw [← step false hb]; simp⟩
                rw [List.length_map]
                have : ys.length ≤ 16777216 := by assumption
                show ms.length < 16777216
                omega
            · rintro H1 ⟨ms, h1, h2, F1, h3⟩
              walk_at "r"
              refine q_bl (k _ F1) ?_
              show decide (V.int _ = V.int 0) = D.sames ds es
              rw [List.length_map]
              cases z : D.sames ds es with
              | true =>
                have : ms = [] := h3.mpr fun j x y _ ex ey => (D.sames_iff hle).mp z j x y ex ey
                rw [this]; rfl
              | false =>
                refine decide_eq_false fun q => ?_
                have q := V.int.inj q
                have hm : ms = [] := by
                  cases ms with
                  | nil => rfl
                  | cons _ _ => simp at q; omega
                rw [(D.sames_iff hle).mpr fun j x y ex ey => h3.mp hm j x y (by have := (List.getElem?_eq_some_iff.mp ey).1; have := hs.len; simp; omega) ex ey] at z
                cases z
        | _ => walk_at "r" <;> exact q_bl (k _ (Fr.refl _)) (by simp [D.same])
end

section
variable {P : Program} {w : World} {K : PySem.W.Frag} {mg : Str → Option Value} {base : Heap}
theorem len_ap (a b : Str) : (a ++ b).length = a.length + b.length := len_app a b
/-- a text of at most n signs comes back -/
def Out (d sc : Addr) (H : Hp) (n : Nat) (Q : VK) : Prop := ∀ (s : Str) (H' : Hp), s.length ≤ n → Fr [d] H H' → Dr H' d sc → Q (.str s) H'
theorem sl16 : sizeLine = 16777216 := rfl
/-- a written text's sign -/
def spRun : Sp := fun vs H Q _ => ∃ (d sc : Addr) (z : Str) (m : Int), vs = [.ref d, .str z, .int m] ∧ Dr H d sc ∧ 0 < z.length ∧ z.length ≤ 1000 ∧ 0 ≤ m ∧ m ≤ 1000 ∧ Out d sc H m.toNat Q
theorem mem_sg {z : Str} {v : V} (h : v ∈ z.cps.toList.map fun c => V.str ⟨#[c]⟩) : ∃ c : Nat, v = .str ⟨#[c]⟩ := by
  obtain ⟨c, _, h2⟩ := List.mem_map.mp h
  exact ⟨c, h2.symm⟩
theorem pk {d sc : Addr} {z : Str} {H : Hp} {Q : VK} {E : XK} (hD : Dr H d sc) (h0 : 0 < z.length) (h1 : z.length ≤ 1000) (k : ∀ (s : Str) H', s.length = 1 → Fr [d] H H' → Dr H' d sc → Q (.str s) H') : spPick K [.ref d, .str z] H Q E :=
  ⟨d, sc, .str z, _, rfl, hD, ⟨Nat.le_trans h1 (by decide), rfl⟩, by rw [List.length_map]; simpa [Str.length] using h0, by rw [List.length_map]; simp [Str.length] at h1 ⊢; omega, (by intro q; cases q), fun v H' hv F D => by
    obtain ⟨c, rfl⟩ := mem_sg hv
    exact k _ H' rfl F D⟩
/-- a pick out of a new list of texts -/
theorem pkL {d sc p : Addr} {ys : List Str} {H : Hp} {Q : VK} {E : XK} (hD : Dr H d sc) (hp : H p = none) (h0 : 0 < ys.length) (h1 : ys.length ≤ 1000) (k : ∀ (s : Str) H', s ∈ ys → Fr [d] H H' → Dr H' d sc → Q (.str s) H') :
    spPick K [.ref d, .ref p] (upd H p (.lst (ys.map V.str))) Q E :=
  ⟨d, sc, .ref p, _, rfl, hD.new hp, Or.inl (SqL.of upd_same), by rw [List.length_map]; exact h0, by rw [List.length_map]; omega, (by intro q; exact hD.ne_d hp (by injection q)), fun v H' hv F D => by
    obtain ⟨s, rfl, hs⟩ := mem_str hv
    exact k _ H' hs ((Fr.new hp).trans F) D⟩
/-- a pick out of a new list of ints -/
theorem pkI {d sc p : Addr} {ns : List Int} {lo hi : Int} {H : Hp} {Q : VK} {E : XK} (b : ∀ n ∈ ns, lo ≤ n ∧ n ≤ hi) (hD : Dr H d sc) (hp : H p = none) (h0 : 0 < ns.length) (h1 : ns.length ≤ 1000) (k : ∀ (n : Int) H', lo ≤ n → n ≤ hi → Fr [d] H H' → Dr H' d sc → Q (.int n) H') :
    spPick K [.ref d, .ref p] (upd H p (.lst (ns.map V.int))) Q E :=
  ⟨d, sc, .ref p, _, rfl, hD.new hp, Or.inl (SqL.of upd_same), by rw [List.length_map]; exact h0, by rw [List.length_map]; omega, (by intro q; exact hD.ne_d hp (by injection q)), fun v H' hv F D => by
    obtain ⟨n, hn, rfl⟩ := List.mem_map.mp hv
    exact k _ H' (b n hn).1 (b n hn).2 ((Fr.new hp).trans F) D⟩
theorem sum_one {ts : List Str} (h : ∀ t ∈ ts, t.length = 1) : (ts.map (·.length)).sum = ts.length := by
  induction ts with
  | nil => rfl
  | cons t r ih =>
    rw [List.map_cons, List.sum_cons, ih fun x hx => h x (List.mem_cons_of_mem _ hx), h t List.mem_cons_self, List.length_cons]
    omega
theorem ok_law_run (T : Top K mg) : Cal P w K mg base 3 "_law_run" spRun := by
  have c__law_pick : Cal P w K mg base 2 "_law_pick" (spPick K) := ok_law_pick T
  refine cal T.d__law_run sc__law_run (fun vs H Q E h => ?_) (fun f cdv A outer s H vs Q E hr h => ?_)
  · obtain ⟨d, sc, z, m, rfl, _⟩ := h
    rfl
  · obtain ⟨d, sc, z, m, rfl, hD, z0, z1, m0, m1, k⟩ := h
    refine ⟨_, (pss_one (ps_ret (G.bm (K := K) PySem.F.plainAttrs_str PySem.F.slot_str_join PySem.F.type_str_join (G.joinA (K := K)) pe_str (pa_cons (pe_lc (own := [("k", 3)]) rfl sc__law_run.nd (pi_range1 (by rfl) T.b_range (pa_cons (pv 2) pa_nil)) (blkOk_by (N := N__law_run) (sc := defScope s__law_run) (by decide +kernel)) (fun _ _ _ _ _ => (pg_name (i := 3) sc__law_run.nd rfl (Or.inl rfl))) (fun _ _ _ _ _ => pts_nil) (fun _ _ _ _ _ => (G.pe_c c__law_pick hr (by omega) rfl (pa_cons (pv 0) (pa_cons (pv 1) pa_nil))))) pa_nil)))), ?_⟩
    walk_at "r"
    intro L hL
    have nd := hD.ne_d hL
    have ns := hD.ne_sc hL
    refine lc_range (fun i H' => ∃ ts : List Str, H' L = some (.lst (ts.map V.str)) ∧ ts.length ≤ i ∧ (∀ t ∈ ts, t.length = 1) ∧ Fr [d] H H' ∧ Dr H' d sc)
      ⟨[], upd_same, Nat.le_refl _, (fun _ h => by cases h), Fr.new hL, hD.new hL⟩ ?_ ?_
    · rintro i H4 hi ⟨ts, g1, g2, g3, F4, D4⟩
      refine ⟨rfl, ?_⟩
      walk_at "r"
      refine go (pk D4 z0 z1 fun s H5 hs F5 D5 => ?_)
      refine ⟨_, F5.md _ _ g1 (by simp [nd]), ?_, ts ++ [s], by rw [upd_same]; simp, by simp; omega, ?_, (F4.trans F5).mut hL, D5.put nd ns⟩
      · rw [List.length_map, sl16]; omega
      · intro t ht
        rcases List.mem_append.mp ht with h | h
        · exact g3 t h
        · rw [List.mem_singleton.mp h]; exact hs
    · rintro H4 ⟨ts, g1, g2, g3, F4, D4⟩
      have lj := join_len0 ts
      have l1 := sum_one g3
      walk_at "r"
      refine ⟨_, L, ts, rfl, rfl, Or.inl (SqL.of g1), ?_, ?_⟩
      · show _ + ts.length * 0 ≤ 16777216
        omega
      exact k _ _ (by omega) F4 D4
def spDigits : Sp := fun vs H Q _ => ∃ (d sc : Addr), vs = [.ref d] ∧ Dr H d sc ∧ Out d sc H 10 Q
theorem ok_law_digits (T : Top K mg) : Cal P w K mg base 4 "_law_digits" spDigits := by
  have c__law_pick : Cal P w K mg base 2 "_law_pick" (spPick K) := ok_law_pick T
  have c__law_run : Cal P w K mg base 3 "_law_run" spRun := ok_law_run T
  refine cal T.d__law_digits sc__law_digits (fun vs H Q E h => ?_) (fun f cdv A outer s H vs Q E hr h => ?_)
  · obtain ⟨d, sc, rfl, _⟩ := h
    rfl
  · obtain ⟨d, sc, rfl, hD, k⟩ := h
    refine ⟨_, (pss_cons (ps_set (i := 1) sc__law_digits.nd rfl (Or.inl rfl) (G.pe_c c__law_pick hr (by omega) rfl (pa_cons (pv 0) (pa_cons (pe_lst (pa_cons pe_int (pa_cons pe_int (pa_cons pe_int (pa_cons pe_int (pa_cons pe_int (pa_cons pe_int (pa_cons pe_int pa_nil)))))))) pa_nil))))
    (pss_one (ps_ret (pe_op op_add_str (G.pe_c c__law_pick hr (by omega) rfl (pa_cons (pv 0) (pa_cons pe_str pa_nil))) (G.pe_c c__law_run hr (by omega) rfl (pa_cons (pv 0) (pa_cons pe_str (pa_cons (pv 1) pa_nil)))))))), ?_⟩
    walk_at "r"
    rename_i p hp
    refine go (pkI (ns := [0, 0, 1, 2, 7, 8, 9]) (lo := 0) (hi := 9) (by decide) hD hp (by decide) (by decide) fun m H1 m0 m1 F1 D1 => ?_)
    walk_at "r"
    refine go (pk D1 (by decide) (by decide) fun a H2 ha F2 D2 => ?_)
    walk_at "r"
    refine go ⟨d, sc, _, m, rfl, D2, by decide, by decide, by omega, by omega, fun b H3 hb F3 D3 => ?_⟩
    walk_at "r"
    exact k _ _ (by rw [len_app]; omega) ((F1.trans F2).trans F3) D3
def spShort : Sp := fun vs H Q _ => ∃ (d sc : Addr) (m : Int), vs = [.ref d, .int m] ∧ Dr H d sc ∧ 0 ≤ m ∧ m ≤ 1000 ∧ (∀ (s : Str) (H' : Hp), 1 ≤ s.length → s.length ≤ m.toNat + 1 → Fr [d] H H' → Dr H' d sc → Q (.str s) H')
theorem ok_law_short (T : Top K mg) : Cal P w K mg base 4 "_law_short" spShort := by
  have c__law_pick : Cal P w K mg base 2 "_law_pick" (spPick K) := ok_law_pick T
  have c__law_run : Cal P w K mg base 3 "_law_run" spRun := ok_law_run T
  refine cal T.d__law_short sc__law_short (fun vs H Q E h => ?_) (fun f cdv A outer s H vs Q E hr h => ?_)
  · obtain ⟨d, sc, m, rfl, _⟩ := h
    rfl
  · obtain ⟨d, sc, m, rfl, hD, m0, m1, k⟩ := h
    refine ⟨_, (pss_cons (ps_set (i := 2) sc__law_short.nd rfl (Or.inl rfl) pe_str)
    (pss_one (ps_ret (pe_op op_add_str (G.pe_c c__law_pick hr (by omega) rfl (pa_cons (pv 0) (pa_cons (pv 2) pa_nil))) (G.pe_c c__law_run hr (by omega) rfl (pa_cons (pv 0) (pa_cons (pe_op op_add_str (pv 2) pe_str) (pa_cons (pv 1) pa_nil)))))))), ?_⟩
    walk_at "r"
    refine go (pk hD (by decide) (by decide) fun a H2 ha F2 D2 => ?_)
    walk_at "r"
    walk_at "r"
    refine go ⟨d, sc, _, m, rfl, D2, by decide, by decide, by omega, by omega, fun b H3 hb F3 D3 => ?_⟩
    walk_at "r"
    exact k _ _ (by rw [len_app]; omega) (by rw [len_app]; omega) (F2.trans F3) D3
/-- a word with one sign changed -/
def spNear : Sp := fun vs H Q _ => ∃ (d sc : Addr) (z : Str), vs = [.ref d, .str z] ∧ Dr H d sc ∧ 0 < z.length ∧ z.length ≤ 1000 ∧ Out d sc H (2 * z.length + 3) Q
theorem ok_law_near (T : Top K mg) : Cal P w K mg base 3 "_law_near" spNear := by
  have c__law_pick : Cal P w K mg base 2 "_law_pick" (spPick K) := ok_law_pick T
  have c__law_draw : Cal P w K mg base 1 "_law_draw" spDraw := ok_law_draw T
  refine cal T.d__law_near sc__law_near (fun vs H Q E h => ?_) (fun f cdv A outer s H vs Q E hr h => ?_)
  · obtain ⟨d, sc, z, rfl, _⟩ := h
    rfl
  · obtain ⟨d, sc, z, rfl, hD, z0, z1, k⟩ := h
    refine ⟨_, (pss_cons (ps_set (i := 2) sc__law_near.nd rfl (Or.inl rfl) (G.pe_c c__law_draw hr (by omega) rfl (pa_cons (pv 0) (pa_cons (pe_callB (G.lenA (K := K)) (by rfl) T.b_len (by decide +kernel) (pa_cons (pv 1) pa_nil)) pa_nil))))
    (pss_cons (ps_set (i := 3) sc__law_near.nd rfl (Or.inl rfl) (G.pe_c c__law_draw hr (by omega) rfl (pa_cons (pv 0) (pa_cons pe_int pa_nil))))
    (pss_cons (ps_if (pt_cmpR op_eq (pv 3) pe_int (nomark _))
      (pss_one (ps_ret (pe_op op_add_str (pe_slice sl_str (pv 1) po_none (po_some (pv 2))) (pe_slice sl_str (pv 1) (po_some (pe_op op_add (pv 2) pe_int)) po_none))))
      pss_nil)
    (pss_cons (ps_if (pt_cmpR op_eq (pv 3) pe_int (nomark _))
      (pss_one (ps_ret (pe_op op_add_str (pe_op op_add_str (pe_slice sl_str (pv 1) po_none (po_some (pv 2))) (G.pe_c c__law_pick hr (by omega) rfl (pa_cons (pv 0) (pa_cons pe_str pa_nil)))) (pe_slice sl_str (pv 1) (po_some (pv 2)) po_none))))
      pss_nil)
    (pss_cons (ps_if (pt_cmpR op_eq (pv 3) pe_int (nomark _))
      (pss_one (ps_ret (pe_op op_add_str (pe_op op_add_str (pe_slice sl_str (pv 1) po_none (po_some (pv 2))) (G.pe_c c__law_pick hr (by omega) rfl (pa_cons (pv 0) (pa_cons pe_str pa_nil)))) (pe_slice sl_str (pv 1) (po_some (pe_op op_add (pv 2) pe_int)) po_none))))
      pss_nil)
    (pss_cons (ps_if (pt_cmpR op_eq (pv 3) pe_int (nomark _))
      (pss_one (ps_ret (pe_op op_add_str (pe_op op_add_str (pe_slice sl_str (pv 1) po_none (po_some (pv 2))) (G.bm0 (K := K) PySem.F.plainAttrs_str PySem.F.slot_str_upper PySem.F.type_str_upper mt_upper (pe_ix ix_str (pv 1) (pv 2) (fun _ _ => rfl)))) (pe_slice sl_str (pv 1) (po_some (pe_op op_add (pv 2) pe_int)) po_none))))
      pss_nil)
    (pss_one (ps_ret (pe_ifExp (pt_cmpR op_eq (pv 3) pe_int (nomark _)) (pe_op op_add_str (pv 1) (pv 1)) (pv 1)))))))))), ?_⟩
    have zs : z.length ≤ sizeLine := Nat.le_trans z1 (by decide)
    walk_at "r"
    refine ⟨_, _, rfl, ⟨zs, rfl⟩, fun _ => ?_⟩
    refine go ⟨d, sc, _, rfl, hD, by omega, by omega, fun a H1 a0 a1 F1 D1 => ?_⟩
    walk_at "r"
    refine go ⟨d, sc, 6, rfl, D1, by omega, by omega, fun b H2 b0 b1 F2 D2 => ?_⟩
    have F2 := F1.trans F2
    have c1 : ∀ lo hi, (cutS z lo hi).length ≤ z.length := cutS_length z
    have cl := c1 none (some a)
    have cr := c1 (some (a + 1)) none
    have cm := c1 (some a) none
    walk_at "r"
    refine if_both (fun e => ?_) (fun e => ?_)
    · walk_at "r"
      exact k _ _ (by rw [len_app]; omega) F2 D2
    walk_at "r"
    refine if_both (fun e => ?_) (fun e => ?_)
    · walk_at "r"
      refine go (pk D2 (by decide) (by decide) fun s H3 hs F3 D3 => ?_)
      walk_at "r"
      exact k _ _ (by rw [len_app, len_app]; omega) (F2.trans F3) D3
    walk_at "r"
    refine if_both (fun e => ?_) (fun e => ?_)
    · walk_at "r"
      refine go (pk D2 (by decide) (by decide) fun s H3 hs F3 D3 => ?_)
      walk_at "r"
      exact k _ _ (by rw [len_app, len_app]; omega) (F2.trans F3) D3
    walk_at "r"
    refine if_both (fun e => ?_) (fun e => ?_)
    · walk_at "r"
      refine ixS zs a0 a1 fun c hc => ?_
      have lu := PyProof.Rows.len_upper (⟨#[c]⟩ : Str)
      have l1 : (⟨#[c]⟩ : Str).length = 1 := rfl
      walk_at "r"
      exact k _ _ (by rw [len_app, len_app]; omega) F2 D2
    walk_at "r"
    refine if_both (fun e => ?_) (fun e => ?_)
    · walk_at "r"
      exact k _ _ (by rw [len_app]; omega) F2 D2
    · walk_at "r"
      exact k _ _ (by omega) F2 D2
end

section
variable {P : Program} {w : World} {K : PySem.W.Frag} {mg : Str → Option Value} {base : Heap}
theorem RES_len : ∀ s ∈ RES, 1 ≤ s.length ∧ s.length ≤ 7 := by decide +kernel
def RTXT : Str := Str.ofString "base extra needs bars above field timer event outer inner rule on ahead behind instead when do nothing" ++ Str.ofString " raise tighten loosen by wish never if then reach yes no not and or tick papers claim row rank fault" ++ Str.ofString " trap end run at start"
theorem RTXT_split : Txt.split RTXT (Str.ofString " ") = RES := by decide +kernel
def spResv : Sp := fun vs H Q _ => vs = [] ∧ ∀ p, H p = none → Q (.ref p) (upd H p (.lst (RES.map V.str)))
theorem ok_law_reserved (T : Top K mg) : Cal P w K mg base 1 "_law_reserved" spResv := by
  refine cal T.d__law_reserved sc__law_reserved (fun vs H Q E h => ?_) (fun f cdv A outer s H vs Q E hr h => ?_)
  · obtain ⟨rfl, _⟩ := h
    rfl
  · obtain ⟨rfl, k⟩ := h
    refine ⟨_, (pss_cons (ps_set (i := 0) sc__law_reserved.nd rfl (Or.inl rfl) pe_str)
    (pss_cons (ps_set (i := 0) sc__law_reserved.nd rfl (Or.inl rfl) (pe_op op_add_str (pv 0) pe_str))
    (pss_one (ps_ret (G.bm (K := K) PySem.F.plainAttrs_str PySem.F.slot_str_split PySem.F.type_str_split mt_split (pe_op op_add_str (pv 0) pe_str) (pa_cons pe_str pa_nil)))))), ?_⟩
    walk_at "r"
    refine And.intro (by decide +kernel) ?_
    walk_at "r"
    refine And.intro (by decide +kernel) ?_
    walk_at "r"
    refine ⟨by decide +kernel, fun p hp => ?_⟩
    have h := k p hp
    rw [← RTXT_split] at h
    exact h
def spSign : Sp := fun vs H Q _ => ∃ (d sc : Addr), vs = [.ref d] ∧ Dr H d sc ∧ Out d sc H 3 Q
theorem ok_law_sign (T : Top K mg) : Cal P w K mg base 3 "_law_sign" spSign := by
  have c__law_pick : Cal P w K mg base 2 "_law_pick" (spPick K) := ok_law_pick T
  refine cal T.d__law_sign sc__law_sign (fun vs H Q E h => ?_) (fun f cdv A outer s H vs Q E hr h => ?_)
  · obtain ⟨d, sc, rfl, _⟩ := h
    rfl
  · obtain ⟨d, sc, rfl, hD, k⟩ := h
    refine ⟨_, (pss_cons (ps_set (i := 1) sc__law_sign.nd rfl (Or.inl rfl) (pe_lst (pa_cons pe_str (pa_cons pe_str (pa_cons pe_str (pa_cons pe_str (pa_cons pe_str (pa_cons pe_str (pa_cons pe_str (pa_cons pe_str (pa_cons pe_str (pa_cons pe_str (pa_cons pe_str (pa_cons pe_str (pa_cons pe_str (pa_cons pe_str (pa_cons pe_str (pa_cons pe_str (pa_cons pe_str (pa_cons pe_str (pa_cons pe_str (pa_cons pe_str pa_nil))))))))))))))))))))))
    (pss_one (ps_ret (G.pe_c c__law_pick hr (by omega) rfl (pa_cons (pv 0) (pa_cons (pv 1) pa_nil)))))), ?_⟩
    walk_at "r"
    rename_i p hp
    refine go (pkL (ys := (["(", ")", "[", "]", ",", ":", ":=", "=", "/=", "<", "<=", ">", ">=", "+", "-", "==", "/", "<>", "=<", "::="] : List String).map Str.ofString) hD hp (by decide) (by decide) fun s H1 hs F1 D1 => ?_)
    have : ∀ s ∈ (["(", ")", "[", "]", ",", ":", ":=", "=", "/=", "<", "<=", ">", ">=", "+", "-", "==", "/", "<>", "=<", "::="] : List String).map Str.ofString, s.length ≤ 3 := by decide +kernel
    exact k _ _ (this s hs) F1 D1
theorem ok_law_any_sign (T : Top K mg) : Cal P w K mg base 3 "_law_any_sign" spSign := by
  have c__law_pick : Cal P w K mg base 2 "_law_pick" (spPick K) := ok_law_pick T
  refine cal T.d__law_any_sign sc__law_any_sign (fun vs H Q E h => ?_) (fun f cdv A outer s H vs Q E hr h => ?_)
  · obtain ⟨d, sc, rfl, _⟩ := h
    rfl
  · obtain ⟨d, sc, rfl, hD, k⟩ := h
    refine ⟨_, (pss_one (ps_ret (G.pe_c c__law_pick hr (by omega) rfl (pa_cons (pv 0) (pa_cons pe_str pa_nil))))), ?_⟩
    walk_at "r"
    exact go (pk hD (by decide +kernel) (by decide +kernel) fun s H1 hs F1 D1 => k _ _ (by omega) F1 D1)
def spPiece : Sp := fun vs H Q _ => ∃ (d sc : Addr), vs = [.ref d] ∧ Dr H d sc ∧ Out d sc H 20 Q
theorem ok_law_piece (T : Top K mg) : Cal P w K mg base 5 "_law_piece" spPiece := by
  have c__law_pick : Cal P w K mg base 2 "_law_pick" (spPick K) := ok_law_pick T
  have c__law_draw : Cal P w K mg base 1 "_law_draw" spDraw := ok_law_draw T
  have c__law_run : Cal P w K mg base 3 "_law_run" spRun := ok_law_run T
  have c__law_near : Cal P w K mg base 3 "_law_near" spNear := ok_law_near T
  have c__law_reserved : Cal P w K mg base 1 "_law_reserved" spResv := ok_law_reserved T
  have c__law_digits : Cal P w K mg base 4 "_law_digits" spDigits := ok_law_digits T
  have c__law_short : Cal P w K mg base 4 "_law_short" spShort := ok_law_short T
  have c__law_sign : Cal P w K mg base 3 "_law_sign" spSign := ok_law_sign T
  have c__law_any_sign : Cal P w K mg base 3 "_law_any_sign" spSign := ok_law_any_sign T
  refine cal T.d__law_piece sc__law_piece (fun vs H Q E h => ?_) (fun f cdv A outer s H vs Q E hr h => ?_)
  · obtain ⟨d, sc, rfl, _⟩ := h
    rfl
  · obtain ⟨d, sc, rfl, hD, k⟩ := h
    refine ⟨_, (pss_cons (ps_set (i := 1) sc__law_piece.nd rfl (Or.inl rfl) (G.pe_c c__law_draw hr (by omega) rfl (pa_cons (pv 0) (pa_cons pe_int pa_nil))))
    (pss_cons (ps_if (pt_cmpR op_eq (pv 1) pe_int (nomark _))
      (pss_one (ps_ret (G.pe_c c__law_run hr (by omega) rfl (pa_cons (pv 0) (pa_cons pe_str (pa_cons (pe_op op_add pe_int (G.pe_c c__law_draw hr (by omega) rfl (pa_cons (pv 0) (pa_cons pe_int pa_nil)))) pa_nil))))))
      pss_nil)
    (pss_cons (ps_if (pt_cmpR op_eq (pv 1) pe_int (nomark _))
      (pss_one (ps_ret (G.pe_c c__law_near hr (by omega) rfl (pa_cons (pv 0) (pa_cons (G.pe_c c__law_pick hr (by omega) rfl (pa_cons (pv 0) (pa_cons (G.pe_c0 c__law_reserved hr (by omega) rfl) pa_nil))) pa_nil)))))
      pss_nil)
    (pss_cons (ps_if (pt_cmpR op_eq (pv 1) pe_int (nomark _))
      (pss_one (ps_ret (G.pe_c c__law_digits hr (by omega) rfl (pa_cons (pv 0) pa_nil))))
      pss_nil)
    (pss_cons (ps_if (pt_cmpR op_eq (pv 1) pe_int (nomark _))
      (pss_one (ps_ret (G.pe_c c__law_short hr (by omega) rfl (pa_cons (pv 0) (pa_cons (pe_op op_add pe_int (G.pe_c c__law_draw hr (by omega) rfl (pa_cons (pv 0) (pa_cons pe_int pa_nil)))) pa_nil)))))
      pss_nil)
    (pss_cons (ps_if (pt_cmpR (G.inQ (K := K)) (pv 1) (pe_tup (pa_cons pe_int (pa_cons pe_int pa_nil))) (by rfl))
      (pss_one (ps_ret (G.pe_c c__law_sign hr (by omega) rfl (pa_cons (pv 0) pa_nil))))
      pss_nil)
    (pss_cons (ps_if (pt_cmpR op_eq (pv 1) pe_int (nomark _))
      (pss_one (ps_ret (G.pe_c c__law_any_sign hr (by omega) rfl (pa_cons (pv 0) pa_nil))))
      pss_nil)
    (pss_cons (ps_if (pt_cmpR op_eq (pv 1) pe_int (nomark _))
      (pss_one (ps_ret (pe_op G.repS pe_str (pe_op op_add pe_int (G.pe_c c__law_draw hr (by omega) rfl (pa_cons (pv 0) (pa_cons pe_int pa_nil)))))))
      pss_nil)
    (pss_one (ps_ret (G.pe_c c__law_short hr (by omega) rfl (pa_cons (pv 0) (pa_cons (G.pe_c c__law_draw hr (by omega) rfl (pa_cons (pv 0) (pa_cons pe_int pa_nil))) pa_nil))))))))))))), ?_⟩
    walk_at "r"
    refine go ⟨d, sc, 9, rfl, hD, by omega, by omega, fun a H1 a0 a1 F1 D1 => ?_⟩
    walk_at "r"
    refine if_both (fun e => ?_) (fun e => ?_)
    · walk_at "r"
      refine go ⟨d, sc, 4, rfl, D1, by omega, by omega, fun b H2 b0 b1 F2 D2 => ?_⟩
      walk_at "r"
      exact go ⟨d, sc, _, _, rfl, D2, by decide +kernel, by decide +kernel, by omega, by omega, fun s H3 hs F3 D3 => k _ _ (by omega) ((F1.trans F2).trans F3) D3⟩
    walk_at "r"
    refine if_both (fun e => ?_) (fun e => ?_)
    · walk_at "r"
      refine go ⟨rfl, fun p hp => ?_⟩
      refine go (pkL D1 hp (by decide +kernel) (by decide +kernel) fun s H2 hs F2 D2 => ?_)
      have hl := RES_len s hs
      exact go ⟨d, sc, s, rfl, D2, by omega, by omega, fun s H3 hs F3 D3 => k _ _ (by omega) ((F1.trans F2).trans F3) D3⟩
    walk_at "r"
    refine if_both (fun e => ?_) (fun e => ?_)
    · walk_at "r"
      exact go ⟨d, sc, rfl, D1, fun s H3 hs F3 D3 => k _ _ (by omega) (F1.trans F3) D3⟩
    walk_at "r"
    refine if_both (fun e => ?_) (fun e => ?_)
    · walk_at "r"
      refine go ⟨d, sc, 4, rfl, D1, by omega, by omega, fun b H2 b0 b1 F2 D2 => ?_⟩
      walk_at "r"
      exact go ⟨d, sc, _, rfl, D2, by omega, by omega, fun s H3 _ hs F3 D3 => k _ _ (by omega) ((F1.trans F2).trans F3) D3⟩
    walk_at "r"
    rename_i p hp
    have D1 := D1.new (o := .tup [.int 4, .int 5]) hp
    have F1 := F1.trans (Fr.new (o := .tup [.int 4, .int 5]) hp)
    refine ifb_both (fun e => ?_) (fun e => ?_)
    · walk_at "r"
      exact go ⟨d, sc, rfl, D1, fun s H3 hs F3 D3 => k _ _ (by omega) (F1.trans F3) D3⟩
    walk_at "r"
    refine if_both (fun e => ?_) (fun e => ?_)
    · walk_at "r"
      exact go ⟨d, sc, rfl, D1, fun s H3 hs F3 D3 => k _ _ (by omega) (F1.trans F3) D3⟩
    walk_at "r"
    refine if_both (fun e => ?_) (fun e => ?_)
    · walk_at "r"
      refine go ⟨d, sc, 3, rfl, D1, by omega, by omega, fun b H2 b0 b1 F2 D2 => ?_⟩
      walk_at "r"
      have l1 : (Str.ofString " ").length = 1 := rfl
      refine ⟨by omega, by omega, by omega, fun z hz => k _ _ ?_ (F1.trans F2) D2⟩
      rw [l1] at hz
      omega
    walk_at "r"
    refine go ⟨d, sc, 3, rfl, D1, by omega, by omega, fun b H2 b0 b1 F2 D2 => ?_⟩
    walk_at "r"
    exact go ⟨d, sc, _, rfl, D2, by omega, by omega, fun s H3 _ hs F3 D3 => k _ _ (by omega) ((F1.trans F2).trans F3) D3⟩
def spLine : Sp := fun vs H Q _ => ∃ (d sc : Addr) (m : Int), vs = [.ref d, .int m] ∧ Dr H d sc ∧ 0 ≤ m ∧ m ≤ 100 ∧ Out d sc H (22 * m.toNat) Q
theorem ok_law_line (T : Top K mg) : Cal P w K mg base 6 "_law_line" spLine := by
  have c__law_pick : Cal P w K mg base 2 "_law_pick" (spPick K) := ok_law_pick T
  have c__law_piece : Cal P w K mg base 5 "_law_piece" spPiece := ok_law_piece T
  refine cal T.d__law_line sc__law_line (fun vs H Q E h => ?_) (fun f cdv A outer s H vs Q E hr h => ?_)
  · obtain ⟨d, sc, m, rfl, _⟩ := h
    rfl
  · obtain ⟨d, sc, m, rfl, hD, m0, m1, k⟩ := h
    refine ⟨_, (pss_cons (ps_set (i := 2) sc__law_line.nd rfl (Or.inl rfl) pe_str)
    (pss_cons (ps_for PassesOwn.never rfl (pi_range1 (by rfl) T.b_range (pa_cons (pv 1) pa_nil)) (pg_name (i := 3) sc__law_line.nd rfl (Or.inl rfl))
      (pss_one (ps_set (i := 2) sc__law_line.nd rfl (Or.inl rfl) (pe_op op_add_str (pe_op op_add_str (pv 2) (G.pe_c c__law_piece hr (by omega) rfl (pa_cons (pv 0) pa_nil))) (G.pe_c c__law_pick hr (by omega) rfl (pa_cons (pv 0) (pa_cons (pe_lst (pa_cons pe_str (pa_cons pe_str (pa_cons pe_str (pa_cons pe_str pa_nil))))) pa_nil)))))))
    (pss_one (ps_ret (pv 2))))), ?_⟩
    walk_at "r"
    refine for_range (fun i σ H' => ∃ (t : Str) (v3 : Option V), σ = [some (.ref d), some (.int m), some (.str t), v3] ∧ t.length ≤ 22 * i ∧ Fr [d] H H' ∧ Dr H' d sc)
      ⟨_, none, rfl, Nat.zero_le _, Fr.refl _, hD⟩ ?_ ?_
    · rintro i σ H2 hi ⟨t, v3, rfl, tl, F2, D2⟩
      walk_at "r"
      refine go ⟨d, sc, rfl, D2, fun a H3 ha F3 D3 => ?_⟩
      walk_at "r"
      rename_i p hp
      refine go (pkL (ys := (["", " ", "", "  "] : List String).map Str.ofString) D3 hp (by decide) (by decide) fun s H4 hs F4 D4 => ?_)
      have : ∀ s ∈ (["", " ", "", "  "] : List String).map Str.ofString, s.length ≤ 2 := by decide +kernel
      have := this s hs
      walk_at "r"
      exact ⟨by rw [len_app, len_app]; omega, ((F2.trans F3).trans F4), D4⟩
    · rintro σ H2 ⟨t, v3, rfl, tl, F2, D2⟩
      walk_at "r"
      exact k _ _ tl F2 D2
end

def lowB (c : Nat) : Bool := decide (c ∈ (Str.ofString "abcdefghijklmnopqrstuvwxyz").cps.toList)
def digB (c : Nat) : Bool := decide (c ∈ (Str.ofString "0123456789").cps.toList)
def capB (c : Nat) : Bool := decide (c ∈ (Str.ofString "ABCDEFGHIJKLMNOPQRSTUVWXYZ").cps.toList)
/-- a sign of a run -/
def runB (c : Nat) : Bool := lowB c || digB c || capB c
/-- a name -/
def nmB (s : Str) : Bool := decide (1 ≤ s.length) && decide (s.length ≤ 12) && !decide (s ∈ RES) && (match s.cps.toList with | [] => false | c :: _ => lowB c) && s.cps.toList.all (fun c => lowB c || digB c)
/-- a number -/
def nuB (s : Str) : Bool := decide (1 ≤ s.length) && decide (s.length ≤ 9) && s.cps.toList.all digB && (decide (s = Str.ofString "0") || match s.cps.toList with | [] => false | c :: _ => !decide ((⟨#[c]⟩ : Str) = Str.ofString "0"))
section
variable {P : Program} {w : World} {K : PySem.W.Frag} {mg : Str → Option Value} {base : Heap}
theorem inV_strs (s : Str) (us : List Str) : inV (.str s) (us.map V.str) = decide (s ∈ us) := by
  unfold inV
  induction us with
  | nil => rfl
  | cons u r ih =>
    rw [List.map_cons, List.any_cons, ih]
    show ((u == s) || decide (s ∈ r)) = decide (s ∈ u :: r)
    by_cases e : u = s
    · subst e; simp
    · have : (u == s) = false := beq_eq_false_iff_ne.mpr e
      rw [this, Bool.false_or]
      exact decide_eq_decide.mpr ⟨fun z => List.mem_cons_of_mem _ z, fun z => by
        rcases List.mem_cons.mp z with q | q
        · exact absurd q.symm e
        · exact q⟩
def spB (g : Str → Bool) : Sp := fun vs H Q _ => ∃ (s : Str), vs = [.str s] ∧ s.length ≤ 100000 ∧ ∀ H', Fr [] H H' → Q (.bl (g s)) H'
theorem ok_is_run_sign (T : Top K mg) : Cal P w K mg base 1 "is_run_sign" (fun vs H Q _ => ∃ c : Nat, vs = [.str ⟨#[c]⟩] ∧ Q (.bl (runB c)) H) := by
  refine cal T.d_is_run_sign sc_is_run_sign (fun vs H Q E h => ?_) (fun f cdv A outer s H vs Q E hr h => ?_)
  · obtain ⟨c, rfl, _⟩ := h
    rfl
  · obtain ⟨c, rfl, k⟩ := h
    refine ⟨_, (pss_one (ps_ret (pe_or (pe_cmpR op_in_sign (pv 0) (G.globV rfl T.g_LETTERS) (by rfl)) (pe_or (pe_cmpR op_in_sign (pv 0) (G.globV rfl T.g_DIGITS) (by rfl)) (pe_one (pe_cmpR op_in_sign (pv 0) (G.globV rfl T.g_CAPITALS) (by rfl))))))), ?_⟩
    walk_at "r"
    unfold runB lowB digB capB at k
    refine if_both (fun e => ?_) (fun e1 => ?_)
    · exact q_bl k (by simp [e])
    walk_at "r"
    refine if_both (fun e => ?_) (fun e2 => ?_)
    · exact q_bl k (by simp [e])
    walk_at "r"
    exact q_bl k (by simp [e1, e2])
/-- the signs up to i are such -/
def Upto (z : Str) (f : Nat → Bool) (i : Nat) : Prop := ∀ j c, j < i → z.cps[j]? = some c → f c = true
theorem Upto.zero {z : Str} {f : Nat → Bool} : Upto z f 0 := fun j c h => by omega
theorem Upto.succ {z : Str} {f : Nat → Bool} {i c : Nat} (h : Upto z f i) (e : z.cps[i]? = some c) (g : f c = true) : Upto z f (i + 1) := fun j d hj ed => by
  by_cases q : j = i
  · subst q; rw [e] at ed; cases ed; exact g
  · exact h j d (by omega) ed
theorem Upto.all {z : Str} {f : Nat → Bool} (h : Upto z f z.cps.size) : z.cps.toList.all f = true := by
  rw [List.all_eq_true]
  intro c hc
  obtain ⟨j, hj, e⟩ := List.getElem_of_mem hc
  refine h j c (by simpa using hj) ?_
  rw [← e]; simp at hj ⊢
theorem not_all {z : Str} {f : Nat → Bool} {i c : Nat} (e : z.cps[i]? = some c) (g : f c = false) : z.cps.toList.all f = false := by
  cases h : z.cps.toList.all f with
  | false => rfl
  | true =>
    rw [List.all_eq_true] at h
    have := h c (by rw [Array.mem_toList_iff]; exact Array.mem_of_getElem? e)
    rw [g] at this; cases this
theorem ok_is_name (T : Top K mg) : Cal P w K mg base 1 "is_name" (spB nmB) := by
  refine cal T.d_is_name sc_is_name (fun vs H Q E h => ?_) (fun f cdv A outer s H vs Q E hr h => ?_)
  · obtain ⟨z, rfl, _⟩ := h
    rfl
  · obtain ⟨z, rfl, hz, k⟩ := h
    have zs : z.length ≤ sizeLine := Nat.le_trans hz (by decide)
    refine ⟨_, (pss_cons (ps_if (PW.pt (pw_or (pt_cmpR op_lt (pe_callB (G.lenA (K := K)) (by rfl) T.b_len (by decide +kernel) (pa_cons (pv 0) pa_nil)) pe_int (nomark _)) (pw_or (pt_cmpR op_gt (pe_callB (G.lenA (K := K)) (by rfl) T.b_len (by decide +kernel) (pa_cons (pv 0) pa_nil)) pe_int (nomark _)) (pw_or1 (pt_cmpR (G.inQ (K := K)) (pv 0) (G.globT rfl T.g_RESERVED) (by rfl))))))
      (pss_one (ps_ret pe_bl))
      pss_nil)
    (pss_cons (ps_if (pt_cmpR op_notIn_sign (pe_ix ix_str (pv 0) pe_int (fun _ _ => rfl)) (G.globV rfl T.g_LETTERS) (by rfl))
      (pss_one (ps_ret pe_bl))
      pss_nil)
    (pss_cons (ps_for PassesOwn.never rfl (pi_str (pv 0)) (pg_name (i := 1) sc_is_name.nd rfl (Or.inl rfl))
      (pss_one (ps_if (PW.pt (pw_and (pt_cmpR op_notIn_sign (pv 1) (G.globV rfl T.g_LETTERS) (by rfl)) (pw_and1 (pt_cmpR op_notIn_sign (pv 1) (G.globV rfl T.g_DIGITS) (by rfl)))))
      (pss_one (ps_ret pe_bl))
      pss_nil)))
    (pss_one (ps_ret pe_bl))))), ?_⟩
    refine cps_if (fun b H' => H' = H ∧ (b = false ↔ (1 ≤ z.length ∧ z.length ≤ 12 ∧ z ∉ RES))) ?_ ?_ ?_
    · intro Q q
      walk_at "r"
      refine ⟨.str z, z.length, rfl, ⟨zs, rfl⟩, fun _ => ?_⟩
      walk_at "r"
      refine if_both (fun e => q _ _ ⟨rfl, ⟨(fun h => (by cases h)), fun h => by omega⟩⟩) (fun e1 => ?_)
      walk_at "r"
      refine ⟨.str z, z.length, rfl, ⟨zs, rfl⟩, fun _ => ?_⟩
      walk_at "r"
      refine if_both (fun e => q _ _ ⟨rfl, ⟨(fun h => (by cases h)), fun h => by omega⟩⟩) (fun e2 => ?_)
      walk_at "r"
      intro a ha
      refine ⟨_, _, rfl, Or.inr (ha _), rfl, flat_strs RES, _, rfl, ?_⟩
      refine q _ _ ⟨rfl, ?_⟩
      show inV (.str z) (RES.map V.str) = false ↔ _
      rw [inV_strs, decide_eq_false_iff_not]
      exact ⟨fun h => ⟨by omega, by omega, h⟩, fun h => h.2.2⟩
    · rintro H2 ⟨rfl, h⟩
      refine q_bl (k _ (Fr.refl _)) ?_
      have h : ¬(1 ≤ z.length ∧ z.length ≤ 12 ∧ z ∉ RES) := fun g => by have := h.mpr g; cases this
      unfold nmB
      by_cases h1 : 1 ≤ z.length
      · by_cases h2 : z.length ≤ 12
        · have h3 : z ∈ RES := by
            by_cases h3 : z ∈ RES
            · exact h3
            · exact absurd ⟨h1, h2, h3⟩ h
          simp [h3]
        · simp [h2]
      · simp [h1]
    · rintro H2 ⟨rfl, h⟩
      obtain ⟨h1, h2, h3⟩ := h.mp rfl
      cases ez : z.cps.toList with
      | nil => rw [Str.length, ← Array.length_toList, ez] at h1; simp at h1
      | cons c r =>
        walk_at "r"
        refine ⟨z, 0, c, rfl, rfl, zs, by rw [ez]; exact atI_nat (j := 0) rfl, ?_⟩
        walk_at "r"
        have e0 : nmB z = (lowB c && z.cps.toList.all fun c => lowB c || digB c) := by
          unfold nmB
          rw [ez]
          simp [h1, h2, h3]
        refine ifn_both (fun e => ?_) (fun e => ?_)
        · refine q_bl (k _ (Fr.refl _)) ?_
          rw [e0]
          simp [lowB, e]
        walk_at "r"
        refine for_it walk_str (fun i σ H' => ∃ v, σ = [some (.str z), v] ∧ H' = H2 ∧ Upto z (fun c => lowB c || digB c) i) ⟨none, rfl, rfl, Upto.zero⟩ (fun _ _ _ _ _ => trivial) ?_ ?_
        · rintro i x σ H3 H4 hi ⟨v, rfl, rfl, u⟩ ⟨rfl, c', ec, rfl⟩
          walk_at "r"
          have fin : lowB c' = false → digB c' = false → nmB z = false := fun p q => by
            rw [e0, not_all ec (by rw [p, q]; rfl), Bool.and_false]
          refine ifn_both (fun e1 => ?_) (fun e1 => ?_)
          · walk_at "r"
            refine ifn_both (fun e2 => ?_) (fun e2 => ?_)
            · exact q_bl (k _ (Fr.refl _)) (by rw [fin (by simp [lowB, e1]) (by simp [digB, e2])])
            · exact ⟨_, rfl, rfl, u.succ ec (by simp [digB, e2])⟩
          · exact ⟨_, rfl, rfl, u.succ ec (by simp [lowB, e1])⟩
        · rintro σ H3 ⟨v, rfl, rfl, u⟩
          walk_at "r"
          refine q_bl (k _ (Fr.refl _)) ?_
          rw [e0, u.all]
          simp [lowB, e]
theorem low_dig (c : Nat) : decide (c ∈ ((Str.ofString "abcdefghijklmnopqrstuvwxyz") ++ (Str.ofString "0123456789")).cps.toList) = (lowB c || digB c) := by
  have h : (Str.ofString "abcdefghijklmnopqrstuvwxyz" ++ Str.ofString "0123456789").cps.toList = (Str.ofString "abcdefghijklmnopqrstuvwxyz").cps.toList ++ (Str.ofString "0123456789").cps.toList := TL.tl_append _ _
  rw [h]
  unfold lowB digB
  rw [← Bool.decide_or]
  exact decide_eq_decide.mpr List.mem_append
theorem ok_law_is_name (T : Top K mg) : Cal P w K mg base 2 "_law_is_name" (spB nmB) := by
  have c__law_reserved : Cal P w K mg base 1 "_law_reserved" spResv := ok_law_reserved T
  refine cal T.d__law_is_name sc__law_is_name (fun vs H Q E h => ?_) (fun f cdv A outer s H vs Q E hr h => ?_)
  · obtain ⟨z, rfl, _⟩ := h
    rfl
  · obtain ⟨z, rfl, hz, k⟩ := h
    have zs : z.length ≤ sizeLine := Nat.le_trans hz (by decide)
    refine ⟨_, (pss_cons (ps_set (i := 1) sc__law_is_name.nd rfl (Or.inl rfl) pe_str)
    (pss_cons (ps_set (i := 2) sc__law_is_name.nd rfl (Or.inr rfl) (pe_op op_add_str (pv 1) pe_str))
    (pss_cons (ps_if (PW.pt (pw_or (pt_cmpR op_lt (pe_callB (G.lenA (K := K)) (by rfl) T.b_len (by decide +kernel) (pa_cons (pv 0) pa_nil)) pe_int (nomark _)) (pw_or (pt_cmpR op_gt (pe_callB (G.lenA (K := K)) (by rfl) T.b_len (by decide +kernel) (pa_cons (pv 0) pa_nil)) pe_int (nomark _)) (pw_or1 (pt_cmpR op_notIn_sign (pe_ix ix_str (pv 0) pe_int (fun _ _ => rfl)) (pv 1) (by rfl))))))
      (pss_one (ps_ret pe_bl))
      pss_nil)
    (pss_cons (ps_if (pt_cmpR op_gt (pe_callB (G.lenA (K := K)) (by rfl) T.b_len (by decide +kernel) (pa_cons (pe_lc (own := [("sign", 3)]) rfl sc__law_is_name.nd (pi_str (pv 0)) (blkOk_by (N := N__law_is_name) (sc := defScope s__law_is_name) (by decide +kernel)) (fun _ _ _ _ _ => (pg_name (i := 3) sc__law_is_name.nd rfl (Or.inl rfl))) (fun _ _ _ _ _ => (pts_one (pt_cmpR op_notIn_sign (pv 3) (pv 2) (by rfl)))) (fun _ _ _ _ _ => (pv 3))) pa_nil)) pe_int (nomark _))
      (pss_one (ps_ret pe_bl))
      pss_nil)
    (pss_one (ps_ret (pe_cmpR (G.ninQ (K := K)) (pv 0) (G.pe_c0 c__law_reserved hr (by omega) rfl) (by rfl)))))))), ?_⟩
    walk_at "r"
    refine ⟨.str z, z.length, rfl, ⟨zs, rfl⟩, fun _ => ?_⟩
    walk_at "r"
    refine if_both (fun e => ?_) (fun e1 => ?_)
    · refine q_bl (k _ (Fr.refl _)) ?_
      unfold nmB
      have : ¬ 1 ≤ z.length := by omega
      simp [this]
    walk_at "r"
    refine ⟨.str z, z.length, rfl, ⟨zs, rfl⟩, fun _ => ?_⟩
    walk_at "r"
    refine if_both (fun e => ?_) (fun e2 => ?_)
    · refine q_bl (k _ (Fr.refl _)) ?_
      unfold nmB
      have : ¬ z.length ≤ 12 := by omega
      simp [this]
    walk_at "r"
    cases ez : z.cps.toList with
    | nil => rw [Str.length, ← Array.length_toList, ez] at e1; simp at e1
    | cons c r =>
      refine ⟨z, 0, c, rfl, rfl, zs, by rw [ez]; exact atI_nat (j := 0) rfl, ?_⟩
      walk_at "r"
      refine ifn_both (fun e => ?_) (fun e3 => ?_)
      · refine q_bl (k _ (Fr.refl _)) ?_
        unfold nmB
        rw [ez]
        have : lowB c = false := by simp [lowB, e]
        simp [this]
      have h1 : 1 ≤ z.length := by omega
      have h2 : z.length ≤ 12 := by omega
      have h3 : (match z.cps.toList with | [] => false | c :: _ => lowB c) = true := by rw [ez]; simp [lowB, e3]
      have e0 : nmB z = (!decide (z ∈ RES) && z.cps.toList.all fun c => lowB c || digB c) := by
        unfold nmB
        rw [h3]
        simp [h1, h2]
      walk_at "r"
      intro L hL
      refine lc_it walk_str (fun i H' => ∃ xs, H' L = some (.lst xs) ∧ xs.length ≤ i ∧ (xs = [] ↔ Upto z (fun c => lowB c || digB c) i) ∧ Fr [] H H')
        ⟨[], upd_same, Nat.le_refl _, ⟨fun _ => Upto.zero, fun _ => rfl⟩, Fr.new hL⟩ (fun _ _ _ _ => trivial) ?_ ?_
      · rintro i x H3 H4 hi ⟨xs, g1, g2, g3, F3⟩ ⟨rfl, c', ec, rfl⟩
        refine ⟨rfl, ?_⟩
        walk_at "r"
        have hi' : i < z.length := hi
        refine ifn_both (fun e1 => ?_) (fun e1 => ?_)
        · refine ⟨_, rfl, _, g1, by show _ < 16777216; omega, _, upd_same, by simp; omega, ⟨fun h => by simp at h, fun h => ?_⟩, F3.mut hL⟩
          have := h i c' (by omega) ec
          have this : (lowB c' || digB c') = true := this
          rw [← low_dig, decide_eq_true_iff] at this
          exact absurd this e1
        · refine ⟨xs, g1, by omega, ?_, F3⟩
          rw [g3]
          exact ⟨fun h => h.succ ec (by show (lowB c' || digB c') = true; rw [← low_dig, decide_eq_true_iff]; exact e1), fun h j c hj e => h j c (by omega) e⟩
      · rintro H3 ⟨xs, g1, g2, g3, F3⟩
        walk_at "r"
        refine if_both (fun e => ?_) (fun e4 => ?_)
        · walk_at "r"
          refine q_bl (k _ F3) ?_
          rw [e0]
          have : (z.cps.toList.all fun c => lowB c || digB c) = false := by
            rw [← Bool.not_eq_true]
            intro h
            rw [List.all_eq_true] at h
            have : xs = [] := g3.mpr fun j c hj ec => h c (by rw [Array.mem_toList_iff]; exact Array.mem_of_getElem? ec)
            rw [this] at e
            exact absurd e (by decide)
          rw [this, Bool.and_false]
        · have hx : xs = [] := by
            cases xs with
            | nil => rfl
            | cons y r => exact absurd (by simp) e4
          walk_at "r"
          refine go ⟨rfl, fun p hp => ?_⟩
          refine ⟨_, _, rfl, Or.inl (SqL.of upd_same), rfl, flat_strs RES, ?_⟩
          refine q_bl (k _ (F3.trans (Fr.new hp))) ?_
          rw [e0, (g3.mp hx).all]
          show (!inV (.str z) (RES.map V.str)) = _
          rw [inV_strs, Bool.and_true]
theorem nu_tail {z : Str} {c : Nat} {r : List Nat} (ez : z.cps.toList = c :: r) (h1 : 1 ≤ z.length) (h2 : z.length ≤ 9) (h3 : z.cps.toList.all digB = true) : nuB z = (decide (z = Str.ofString "0") || !decide ((⟨#[c]⟩ : Str) = Str.ofString "0")) := by
  unfold nuB
  rw [h3, ez]
  simp [h1, h2]
theorem ok_is_number (T : Top K mg) : Cal P w K mg base 1 "is_number" (spB nuB) := by
  refine cal T.d_is_number sc_is_number (fun vs H Q E h => ?_) (fun f cdv A outer s H vs Q E hr h => ?_)
  · obtain ⟨z, rfl, _⟩ := h
    rfl
  · obtain ⟨z, rfl, hz, k⟩ := h
    have zs : z.length ≤ sizeLine := Nat.le_trans hz (by decide)
    refine ⟨_, (pss_cons (ps_if (PW.pt (pw_or (pt_cmpR op_lt (pe_callB (G.lenA (K := K)) (by rfl) T.b_len (by decide +kernel) (pa_cons (pv 0) pa_nil)) pe_int (nomark _)) (pw_or1 (pt_cmpR op_gt (pe_callB (G.lenA (K := K)) (by rfl) T.b_len (by decide +kernel) (pa_cons (pv 0) pa_nil)) pe_int (nomark _)))))
      (pss_one (ps_ret pe_bl))
      pss_nil)
    (pss_cons (ps_for PassesOwn.never rfl (pi_str (pv 0)) (pg_name (i := 1) sc_is_number.nd rfl (Or.inl rfl))
      (pss_one (ps_if (pt_cmpR op_notIn_sign (pv 1) (G.globV rfl T.g_DIGITS) (by rfl))
      (pss_one (ps_ret pe_bl))
      pss_nil)))
    (pss_one (ps_ret (pe_or (pe_cmpR op_eq (pv 0) pe_str (nomark _)) (pe_one (pe_cmpR op_ne (pe_ix ix_str (pv 0) pe_int (fun _ _ => rfl)) pe_str (nomark _)))))))), ?_⟩
    walk_at "r"
    refine ⟨.str z, z.length, rfl, ⟨zs, rfl⟩, fun _ => ?_⟩
    walk_at "r"
    refine if_both (fun e => ?_) (fun e1 => ?_)
    · refine q_bl (k _ (Fr.refl _)) ?_
      unfold nuB
      have : ¬ 1 ≤ z.length := by omega
      simp [this]
    walk_at "r"
    refine ⟨.str z, z.length, rfl, ⟨zs, rfl⟩, fun _ => ?_⟩
    walk_at "r"
    refine if_both (fun e => ?_) (fun e2 => ?_)
    · refine q_bl (k _ (Fr.refl _)) ?_
      unfold nuB
      have : ¬ z.length ≤ 9 := by omega
      simp [this]
    walk_at "r"
    have h1 : 1 ≤ z.length := by omega
    have h2 : z.length ≤ 9 := by omega
    refine for_it walk_str (fun i σ H' => ∃ v, σ = [some (.str z), v] ∧ H' = H ∧ Upto z digB i) ⟨none, rfl, rfl, Upto.zero⟩ (fun _ _ _ _ _ => trivial) ?_ ?_
    · rintro i x σ H3 H4 hi ⟨v, rfl, rfl, u⟩ ⟨rfl, c', ec, rfl⟩
      walk_at "r"
      refine ifn_both (fun e1 => ?_) (fun e1 => ?_)
      · walk_at "r"
        refine q_bl (k _ (Fr.refl _)) ?_
        unfold nuB
        rw [not_all ec (by simp [digB, e1])]
        simp
      · exact ⟨_, rfl, rfl, u.succ ec (by simp [digB, e1])⟩
    · rintro σ H3 ⟨v, rfl, rfl, u⟩
      cases ez : z.cps.toList with
      | nil => rw [Str.length, ← Array.length_toList, ez] at e1; simp at e1
      | cons c r =>
        have e0 := nu_tail ez h1 h2 u.all
        walk_at "r"
        refine if_both (fun e => ?_) (fun e => ?_)
        · refine q_bl (k _ (Fr.refl _)) ?_
          rw [e0]
          simp [V.str.inj e]
        walk_at "r"
        refine ⟨z, 0, c, rfl, rfl, zs, by rw [ez]; exact atI_nat (j := 0) rfl, ?_⟩
        walk_at "r"
        refine q_bl (k _ (Fr.refl _)) ?_
        rw [e0]
        have e5 : decide (z = Str.ofString "0") = false := by simp; exact fun h => e (by rw [h])
        rw [e5, Bool.false_or]
        congr 1
        exact decide_eq_decide.mpr str_is
theorem ok_law_is_number (T : Top K mg) : Cal P w K mg base 1 "_law_is_number" (spB nuB) := by
  refine cal T.d__law_is_number sc__law_is_number (fun vs H Q E h => ?_) (fun f cdv A outer s H vs Q E hr h => ?_)
  · obtain ⟨z, rfl, _⟩ := h
    rfl
  · obtain ⟨z, rfl, hz, k⟩ := h
    have zs : z.length ≤ sizeLine := Nat.le_trans hz (by decide)
    refine ⟨_, (pss_cons (ps_if (PW.pt (pw_or (pt_cmpR op_lt (pe_callB (G.lenA (K := K)) (by rfl) T.b_len (by decide +kernel) (pa_cons (pv 0) pa_nil)) pe_int (nomark _)) (pw_or (pt_cmpR op_gt (pe_callB (G.lenA (K := K)) (by rfl) T.b_len (by decide +kernel) (pa_cons (pv 0) pa_nil)) pe_int (nomark _)) (pw_or1 (pt_cmpR op_gt (pe_callB (G.lenA (K := K)) (by rfl) T.b_len (by decide +kernel) (pa_cons (pe_lc (own := [("sign", 1)]) rfl sc__law_is_number.nd (pi_str (pv 0)) (blkOk_by (N := N__law_is_number) (sc := defScope s__law_is_number) (by decide +kernel)) (fun _ _ _ _ _ => (pg_name (i := 1) sc__law_is_number.nd rfl (Or.inl rfl))) (fun _ _ _ _ _ => (pts_one (pt_cmpR op_notIn_sign (pv 1) pe_str (by rfl)))) (fun _ _ _ _ _ => (pv 1))) pa_nil)) pe_int (nomark _))))))
      (pss_one (ps_ret pe_bl))
      pss_nil)
    (pss_one (ps_ret (pe_or (pe_cmpR op_eq (pv 0) pe_str (nomark _)) (pe_one (pe_cmpR op_ne (pe_ix ix_str (pv 0) pe_int (fun _ _ => rfl)) pe_str (nomark _))))))), ?_⟩
    walk_at "r"
    refine ⟨.str z, z.length, rfl, ⟨zs, rfl⟩, fun _ => ?_⟩
    walk_at "r"
    refine if_both (fun e => ?_) (fun e1 => ?_)
    · refine q_bl (k _ (Fr.refl _)) ?_
      unfold nuB
      have : ¬ 1 ≤ z.length := by omega
      simp [this]
    walk_at "r"
    refine ⟨.str z, z.length, rfl, ⟨zs, rfl⟩, fun _ => ?_⟩
    walk_at "r"
    refine if_both (fun e => ?_) (fun e2 => ?_)
    · refine q_bl (k _ (Fr.refl _)) ?_
      unfold nuB
      have : ¬ z.length ≤ 9 := by omega
      simp [this]
    walk_at "r"
    have h1 : 1 ≤ z.length := by omega
    have h2 : z.length ≤ 9 := by omega
    intro L hL
    refine lc_it walk_str (fun i H' => ∃ xs, H' L = some (.lst xs) ∧ xs.length ≤ i ∧ (xs = [] ↔ Upto z digB i) ∧ Fr [] H H')
      ⟨[], upd_same, Nat.le_refl _, ⟨fun _ => Upto.zero, fun _ => rfl⟩, Fr.new hL⟩ (fun _ _ _ _ => trivial) ?_ ?_
    · rintro i x H3 H4 hi ⟨xs, g1, g2, g3, F3⟩ ⟨rfl, c', ec, rfl⟩
      refine ⟨rfl, ?_⟩
      walk_at "r"
      have hi' : i < z.length := hi
      refine ifn_both (fun e1 => ?_) (fun e1 => ?_)
      · refine ⟨_, rfl, _, g1, by show _ < 16777216; omega, _, upd_same, by simp; omega, ⟨fun h => by simp at h, fun h => ?_⟩, F3.mut hL⟩
        have := h i c' (by omega) ec
        unfold digB at this
        rw [decide_eq_true_iff] at this
        exact absurd this e1
      · refine ⟨xs, g1, by omega, ?_, F3⟩
        rw [g3]
        exact ⟨fun h => h.succ ec (by unfold digB; rw [decide_eq_true_iff]; exact e1), fun h j c hj e => h j c (by omega) e⟩
    · rintro H3 ⟨xs, g1, g2, g3, F3⟩
      walk_at "r"
      refine if_both (fun e => ?_) (fun e4 => ?_)
      · walk_at "r"
        refine q_bl (k _ F3) ?_
        have : z.cps.toList.all digB = false := by
          rw [← Bool.not_eq_true]
          intro h
          rw [List.all_eq_true] at h
          have : xs = [] := g3.mpr fun j c hj ec => h c (by rw [Array.mem_toList_iff]; exact Array.mem_of_getElem? ec)
          rw [this] at e
          exact absurd e (by decide)
        unfold nuB
        rw [this]
        simp
      · have hx : xs = [] := by
          cases xs with
          | nil => rfl
          | cons y r => exact absurd (by simp) e4
        cases ez : z.cps.toList with
        | nil => rw [Str.length, ← Array.length_toList, ez] at e1; simp at e1
        | cons c r =>
          have e0 := nu_tail ez h1 h2 (g3.mp hx).all
          walk_at "r"
          refine if_both (fun e => ?_) (fun e => ?_)
          · refine q_bl (k _ F3) ?_
            rw [e0]
            simp [V.str.inj e]
          walk_at "r"
          refine ⟨z, 0, c, rfl, rfl, zs, by rw [ez]; exact atI_nat (j := 0) rfl, ?_⟩
          walk_at "r"
          refine q_bl (k _ F3) ?_
          rw [e0]
          have e5 : decide (z = Str.ofString "0") = false := by simp; exact fun h => e (by rw [h])
          rw [e5, Bool.false_or]
          congr 1
          exact decide_eq_decide.mpr str_is
end

/-! ### the plain law: two ways to cut a line -/
def isDbl (u : List Nat) : Bool := decide (G.mk u ∈ DBL)
def stepT (l : List Nat) : Nat := match l with
  | [] => 1
  | c :: _ => if runB c = true then (l.takeWhile runB).length else if isDbl (l.take 2) = true then 2 else 1
theorem stepT_pos (l : List Nat) : 1 ≤ stepT l := by
  unfold stepT
  split
  · omega
  · split
    · rename_i h
      rw [List.takeWhile_cons_of_pos h]; simp
    · split <;> omega
def ptoks (l : List Nat) : List Str := match l with
  | [] => []
  | c :: r => if c = 32 then ptoks r else G.mk ((c :: r).take (stepT (c :: r))) :: ptoks ((c :: r).drop (stepT (c :: r)))
termination_by l.length
decreasing_by
  all_goals simp_wf
  have := stepT_pos (c :: r)
  omega
def headRun (t : List Nat) : Bool := match t with | [] => false | c :: _ => runB c
def joins (t : List Nat) (c : Nat) : Bool := isDbl (t ++ [c]) || (runB c && headRun t)
def ltk : Option (List Nat) → List Nat → List Str
  | none, [] => []
  | some t, [] => [G.mk t]
  | none, c :: r => if c = 32 then ltk none r else ltk (some [c]) r
  | some t, c :: r => if c = 32 then G.mk t :: ltk none r else if joins t c = true then ltk (some (t ++ [c])) r else G.mk t :: ltk (some [c]) r
theorem dbl_of {u : List Nat} (h : isDbl u = true) : ∃ c d, u = [c, d] ∧ runB c = false ∧ d ≠ 32 := by
  have k : ∀ s ∈ DBL, (match s.cps.toList with | [c, d] => !runB c && !decide (d = 32) | _ => false) = true := by decide +kernel
  have := k _ (of_decide_eq_true h)
  rw [G.tl_mk] at this
  match u, this with
  | [c, d], h =>
    simp only [Bool.and_eq_true, Bool.not_eq_true', decide_eq_false_iff_not] at h
    exact ⟨c, d, rfl, h.1, h.2⟩
  | [], h => simp at h
  | [_], h => simp at h
  | _ :: _ :: _ :: _, h => simp at h
theorem run32 : runB 32 = false := by decide +kernel
theorem toks_all : ∀ (n : Nat) (l : List Nat), l.length ≤ n →
    ltk none l = ptoks l ∧
    (∀ t, t ≠ [] → (∀ c ∈ t, runB c = true) → ltk (some t) l = G.mk (t ++ l.takeWhile runB) :: ptoks (l.dropWhile runB)) ∧
    (∀ c d, isDbl [c, d] = true → ltk (some [c, d]) l = G.mk [c, d] :: ptoks l) ∧
    (∀ c, runB c = false → ltk (some [c]) l = match l with | [] => [G.mk [c]] | d :: r => if isDbl [c, d] = true then G.mk [c, d] :: ptoks r else G.mk [c] :: ptoks (d :: r))
  | 0, l, h => by
    have : l = [] := List.length_eq_zero_iff.mp (by omega)
    subst this
    refine ⟨by simp [ltk, ptoks], fun t _ _ => by simp [ltk, ptoks], fun c d _ => by simp [ltk, ptoks], fun c _ => by simp [ltk]⟩
  | n + 1, [], h => by
    refine ⟨by simp [ltk, ptoks], fun t _ _ => by simp [ltk, ptoks], fun c d _ => by simp [ltk, ptoks], fun c _ => by simp [ltk]⟩
  | n + 1, c :: r, h => by
    obtain ⟨iA, iB, iC, iD⟩ := toks_all n r (by simpa using h)
    have hA : ltk none (c :: r) = ptoks (c :: r) := by
      rw [ptoks]
      by_cases e : c = 32
      · rw [if_pos e]
        simp only [ltk, if_pos e, iA]
      · rw [if_neg e]
        simp only [ltk, if_neg e]
        by_cases hr : runB c = true
        · rw [iB [c] (by simp) (by simpa using hr)]
          unfold stepT
          simp only [hr, if_true]
          rw [List.takeWhile_cons_of_pos hr]
          have e1 : (c :: r).take (c :: r.takeWhile runB).length = c :: r.takeWhile runB := by
            rw [List.length_cons, List.take_succ_cons]
            congr 1
            conv => lhs; arg 2; rw [← List.takeWhile_append_dropWhile (p := runB) (l := r)]
            exact List.take_left
          have e2 : (c :: r).drop (c :: r.takeWhile runB).length = r.dropWhile runB := by
            rw [List.length_cons, List.drop_succ_cons]
            conv => lhs; arg 2; rw [← List.takeWhile_append_dropWhile (p := runB) (l := r)]
            exact List.drop_left
          rw [e1, e2]
          rfl
        · have hr : runB c = false := by simpa using hr
          rw [iD c hr]
          unfold stepT
          simp only [hr]
          cases r with
          | nil =>
            have : isDbl [c] = false := by
              rw [← Bool.not_eq_true]
              intro h
              obtain ⟨_, _, e, _⟩ := dbl_of h
              simp at e
            simp [this, ptoks]
          | cons d r =>
            simp only [List.take_succ_cons, List.take_zero]
            by_cases hd : isDbl [c, d] = true
            · simp [hd]
            · simp [hd]
    have hN : c ≠ 32 → ltk (some [c]) r = ptoks (c :: r) := fun e => by
      rw [← hA]
      simp only [ltk, if_neg e]
    have h32 : c = 32 → ptoks (c :: r) = ptoks r := fun e => by rw [ptoks, if_pos e]
    refine ⟨hA, fun t ht hr => ?_, fun a b hd => ?_, fun a ha => ?_⟩
    · by_cases e : c = 32
      · have : runB c = false := by rw [e]; exact run32
        rw [List.takeWhile_cons_of_neg (by simp [this]), List.dropWhile_cons_of_neg (by simp [this]), h32 e]
        simp only [ltk, if_pos e, iA, List.append_nil]
      · have hh : headRun t = true := by
          cases t with
          | nil => exact absurd rfl ht
          | cons x y => exact hr x List.mem_cons_self
        simp only [ltk, if_neg e]
        by_cases hc : runB c = true
        · have : joins t c = true := by unfold joins; rw [hc, hh]; simp
          rw [if_pos this, iB (t ++ [c]) (by simp) (fun x hx => by
            rcases List.mem_append.mp hx with q | q
            · exact hr x q
            · rw [List.mem_singleton.mp q]; exact hc)]
          rw [List.takeWhile_cons_of_pos hc, List.dropWhile_cons_of_pos hc, List.append_assoc]
          rfl
        · have hc : runB c = false := by simpa using hc
          have : joins t c = false := by
            unfold joins
            rw [hc, Bool.false_and, Bool.or_false, ← Bool.not_eq_true]
            intro h
            obtain ⟨x, y, e1, e2, _⟩ := dbl_of h
            cases t with
            | nil => exact absurd rfl ht
            | cons u v =>
              have : u = x := by simpa using congrArg (fun l : List Nat => l.head?) e1
              rw [← this, hr u List.mem_cons_self] at e2
              cases e2
          rw [if_neg (by rw [this]; simp), hN e, List.takeWhile_cons_of_neg (by simp [hc]), List.dropWhile_cons_of_neg (by simp [hc]), List.append_nil]
    · obtain ⟨x, y, e1, e2, _⟩ := dbl_of hd
      by_cases e : c = 32
      · simp only [ltk, if_pos e, iA, h32 e]
      · have hj : joins [a, b] c = false := by
          unfold joins
          have : headRun [a, b] = false := by
            have : a = x := by simpa using congrArg (fun l : List Nat => l.head?) e1
            show runB a = false
            rw [this]; exact e2
          rw [this, Bool.and_false, Bool.or_false, ← Bool.not_eq_true]
          intro h
          obtain ⟨_, _, e3, _⟩ := dbl_of h
          have := congrArg List.length e3
          simp at this
        simp only [ltk, if_neg e, hj]
        rw [if_neg (by simp), hN e]
    · by_cases e : c = 32
      · have : isDbl [a, c] = false := by
          rw [← Bool.not_eq_true]
          intro h
          obtain ⟨x, y, e1, _, e2⟩ := dbl_of h
          have : c = y := by simpa using congrArg (fun l : List Nat => l.getLast?) e1
          exact e2 (by rw [← this]; exact e)
        simp only [ltk, if_pos e, iA, this, h32 e]
        simp
      · have hj : joins [a] c = isDbl [a, c] := by
          unfold joins
          have : headRun [a] = false := ha
          rw [this, Bool.and_false, Bool.or_false]
          rfl
        simp only [ltk, if_neg e, hj]
        by_cases hd : isDbl [a, c] = true
        · rw [if_pos hd, if_pos hd]
          exact iC a c hd
        · rw [if_neg hd, if_neg hd, hN e]
theorem toks_eq (l : List Nat) : ltk none l = ptoks l := (toks_all l.length l (Nat.le_refl _)).1

section
variable {P : Program} {w : World} {K : PySem.W.Frag} {mg : Str → Option Value} {base : Heap}
theorem strsA_len (z : Str) : z.cps.toList.length = z.length := by simp [Str.length]
theorem drop_at {l : List Nat} {p : Nat} (h : p < l.length) : ∃ c, l.drop p = c :: l.drop (p + 1) ∧ atI l (p : Int) = some c := ⟨l[p], List.drop_eq_getElem_cons h, atI_nat (List.getElem?_eq_getElem h)⟩
def spEnd : Sp := fun vs H Q _ => ∃ (z : Str) (p : Nat), vs = [.str z, .int p] ∧ p ≤ z.length ∧ z.length ≤ 100000 ∧ Q (.int ((p + ((z.cps.toList.drop p).takeWhile runB).length : Nat) : Int)) H
theorem ok_end_of_run (T : Top K mg) : Cal P w K mg base 2 "end_of_run" spEnd := by
  have c_is_run_sign := ok_is_run_sign (P := P) (w := w) (base := base) T
  refine cal T.d_end_of_run sc_end_of_run (fun vs H Q E h => ?_) (fun f cdv A outer s H vs Q E hr h => ?_)
  · obtain ⟨z, p, rfl, _⟩ := h
    rfl
  · obtain ⟨z, p, rfl, hp, hz, k⟩ := h
    have zs : z.length ≤ sizeLine := Nat.le_trans hz (by decide)
    have zl := strsA_len z
    refine ⟨_, (pss_cons (ps_set (i := 2) sc_end_of_run.nd rfl (Or.inl rfl) (pv 1))
    (pss_cons (ps_while PassesOwn.never (PW.pt (pw_and (pt_cmpR op_lt (pv 2) (pe_callB (G.lenA (K := K)) (by rfl) T.b_len (by decide +kernel) (pa_cons (pv 0) pa_nil)) (nomark _)) (pw_and1 (pt_val (G.pe_c c_is_run_sign hr (by omega) rfl (pa_cons (pe_ix ix_str (pv 0) (pv 2) (fun _ _ => rfl)) pa_nil))))))
      (pss_one (ps_aug (i := 2) sc_end_of_run.nd rfl (Or.inl rfl) pe_int ip_add)))
    (pss_one (ps_ret (pv 2))))), ?_⟩
    walk_at "r"
    refine ⟨fun m σ H' => ∃ e : Nat, σ = [some (.str z), some (.int p), some (.int (e : Nat))] ∧ H' = H ∧ e ≤ z.length ∧ m = z.length - e ∧ e + ((z.cps.toList.drop e).takeWhile runB).length = p + ((z.cps.toList.drop p).takeWhile runB).length, ⟨_, p, rfl, rfl, hp, rfl, rfl⟩, ?_⟩
    rintro m σ H' ⟨e, rfl, rfl, he, rfl, hs⟩
    walk_at "r"
    refine ⟨.str z, z.length, rfl, ⟨zs, rfl⟩, fun _ => ?_⟩
    walk_at "r"
    refine if_both (fun e1 => ?_) (fun e1 => ?_)
    · obtain ⟨c, h1, h2⟩ := drop_at (l := z.cps.toList) (p := e) (by omega)
      walk_at "r"
      refine ⟨z, (e : Nat), c, rfl, rfl, zs, h2, ?_⟩
      refine go ⟨c, rfl, ?_⟩
      walk_at "r"
      refine ifb_both (fun hb => ?_) (fun hb => ?_)
      · rw [h1, List.takeWhile_cons_of_pos hb] at hs
        refine ⟨fun σ' H2 => σ' = [some (.str z), some (.int p), some (.int ((e + 1 : Nat) : Int))] ∧ H2 = H', ?_, ?_⟩
        · rintro σ' H2 ⟨rfl, rfl⟩
          refine ⟨_, by omega, e + 1, rfl, rfl, by omega, rfl, ?_⟩
          rw [← hs, List.length_cons]
          omega
        · walk_at "r"
          rfl
      · rw [h1, List.takeWhile_cons_of_neg (by simp [hb])] at hs
        walk_at "r"
        refine q_int k ?_
        rw [← hs]; rfl
    · have : e = z.length := by omega
      subst this
      rw [← zl, List.drop_length] at hs
      walk_at "r"
      refine q_int k ?_
      rw [← hs]
      simp [zl]
/-- the cut of a line from p to q -/
theorem cut_pq (z : Str) (p q : Nat) (hp : p ≤ q) (hq : q ≤ z.length) : cutS z (some (p : Int)) (some (q : Int)) = G.mk ((z.cps.toList.drop p).take (q - p)) := by
  unfold cutS G.mk HT.sIx
  simp only
  rw [if_neg (by omega), if_neg (by omega)]
  have e1 : min ((p : Int).toNat) z.length = p := by omega
  have e2 : min ((q : Int).toNat) z.length = q := by omega
  rw [e1, e2]
theorem cut_p2 (z : Str) (p : Nat) (hp : p ≤ z.length) : cutS z (some (p : Int)) (some ((p : Int) + 2)) = G.mk ((z.cps.toList.drop p).take 2) := by
  unfold cutS G.mk HT.sIx
  simp only
  rw [if_neg (by omega), if_neg (by omega)]
  have e1 : min ((p : Int).toNat) z.length = p := by omega
  rw [e1]
  have e2 : min (((p : Int) + 2).toNat) z.length - p = min 2 (z.length - p) := by omega
  rw [e2]
  congr 2
  rw [← strsA_len z, ← List.length_drop]
  rw [List.take_eq_take_min (i := 2)]
def spToks (K : PySem.W.Frag) : Sp := fun vs H Q _ => ∃ (z : Str), vs = [.str z] ∧ z.length ≤ 100000 ∧ ∀ v H', Da K H' v (.tup ((ptoks z.cps.toList).map D.str)) → Fr [] H H' → Q v H'
theorem das_strs {H : Hp} : ∀ ts : List Str, Das K H (ts.map V.str) (ts.map D.str)
  | [] => .nil
  | _ :: ts => .cons (.str _) (das_strs ts)
theorem stepT_le {c : Nat} {r : List Nat} : stepT (c :: r) ≤ (c :: r).length := by
  unfold stepT
  simp only
  split
  · exact List.Sublist.length_le (List.takeWhile_sublist _)
  · split
    · rename_i h
      obtain ⟨x, y, e, _⟩ := dbl_of h
      have := congrArg List.length e
      rw [List.length_take] at this
      simp at this ⊢
      omega
    · simp
theorem ok_tokens_of (T : Top K mg) : Cal P w K mg base 3 "tokens_of" (spToks K) := by
  have c_is_run_sign := ok_is_run_sign (P := P) (w := w) (base := base) T
  have c_end_of_run := ok_end_of_run (P := P) (w := w) (base := base) T
  refine cal T.d_tokens_of sc_tokens_of (fun vs H Q E h => ?_) (fun f cdv A outer s H vs Q E hr h => ?_)
  · obtain ⟨z, rfl, _⟩ := h
    rfl
  · obtain ⟨z, rfl, hz, k⟩ := h
    have zs : z.length ≤ sizeLine := Nat.le_trans hz (by decide)
    have zl := strsA_len z
    refine ⟨_, (pss_cons (ps_set (i := 1) sc_tokens_of.nd rfl (Or.inl rfl) (pe_lst pa_nil))
    (pss_cons (ps_set (i := 2) sc_tokens_of.nd rfl (Or.inl rfl) pe_int)
    (pss_cons (ps_while PassesOwn.never (pt_cmpR op_lt (pv 2) (pe_callB (G.lenA (K := K)) (by rfl) T.b_len (by decide +kernel) (pa_cons (pv 0) pa_nil)) (nomark _))
      (pss_cons (ps_set (i := 3) sc_tokens_of.nd rfl (Or.inl rfl) (pe_op op_add (pv 2) pe_int))
    (pss_cons (ps_if (pt_cmpR op_eq (pe_ix ix_str (pv 0) (pv 2) (fun _ _ => rfl)) pe_str (nomark _))
      (pss_cons (ps_set (i := 2) sc_tokens_of.nd rfl (Or.inl rfl) (pv 3))
    (pss_one ps_continue))
      pss_nil)
    (C8.pss_cut (ps_if (pt_val (G.pe_c c_is_run_sign hr (by omega) rfl (pa_cons (pe_ix ix_str (pv 0) (pv 2) (fun _ _ => rfl)) pa_nil)))
      (pss_one (ps_set (i := 3) sc_tokens_of.nd rfl (Or.inl rfl) (G.pe_c c_end_of_run hr (by omega) rfl (pa_cons (pv 0) (pa_cons (pv 2) pa_nil)))))
      (pss_one (ps_if (pt_cmpR (G.inQ (K := K)) (pe_slice sl_str (pv 0) (po_some (pv 2)) (po_some (pe_op op_add (pv 2) pe_int))) (G.globT rfl T.g_DOUBLE_SIGNS) (by rfl))
      (pss_one (ps_set (i := 3) sc_tokens_of.nd rfl (Or.inl rfl) (pe_op op_add (pv 2) pe_int)))
      pss_nil)))
    (pss_cons (ps_expr (G.bm (K := K) PySem.F.plainAttrs_list PySem.F.slot_list_append PySem.F.type_list_append mt_append (pv 1) (pa_cons (pe_slice sl_str (pv 0) (po_some (pv 2)) (po_some (pv 3))) pa_nil)))
    (pss_one (ps_set (i := 2) sc_tokens_of.nd rfl (Or.inl rfl) (pv 3))))))))
    (pss_one (ps_ret (pe_callTy (G.tupOf (K := K)) (by rfl) T.b_tuple (by decide +kernel) (pa_cons (pv 1) pa_nil))))))), ?_⟩
    refine ⟨sz100 rfl, fun L hL => ?_⟩
    walk_at "r"
    refine ⟨fun m σ H' => ∃ (p : Nat) (ts : List Str) (v : Option V), σ = [some (.str z), some (.ref L), some (.int (p : Nat)), v] ∧ H' L = some (.lst (ts.map V.str)) ∧ p ≤ z.length ∧ m = z.length - p ∧ ts.length ≤ p ∧ ts ++ ptoks (z.cps.toList.drop p) = ptoks z.cps.toList ∧ Fr [] H H', ⟨_, 0, [], none, rfl, upd_same, Nat.zero_le _, rfl, Nat.zero_le _, rfl, Fr.new hL⟩, ?_⟩
    rintro m σ H' ⟨p, ts, v, rfl, g1, hp, rfl, g2, g3, F⟩
    walk_at "r"
    refine ⟨.str z, z.length, rfl, ⟨zs, rfl⟩, fun _ => ?_⟩
    walk_at "r"
    refine if_both (fun e1 => ?_) (fun e1 => ?_)
    · obtain ⟨c, h1, h2⟩ := drop_at (l := z.cps.toList) (p := p) (by omega)
      have st := stepT_pos (z.cps.toList.drop p)
      refine ⟨fun σ' H2 => ∃ (q : Nat) (ts : List Str) (v : Option V), σ' = [some (.str z), some (.ref L), some (.int (q : Nat)), v] ∧ H2 L = some (.lst (ts.map V.str)) ∧ p < q ∧ q ≤ z.length ∧ ts.length ≤ q ∧ ts ++ ptoks (z.cps.toList.drop q) = ptoks z.cps.toList ∧ Fr [] H H2, ?_, ?_⟩
      · rintro σ' H2 ⟨q, ts, v, rfl, b1, b2, b3, b4, b5, b6⟩
        exact ⟨_, by omega, q, ts, v, rfl, b1, b3, rfl, b4, b5, b6⟩
      walk_at "r"
      refine ⟨z, (p : Nat), c, rfl, rfl, zs, h2, ?_⟩
      walk_at "r"
      refine if_both (fun e2 => ?_) (fun e2 => ?_)
      · have ec : c = 32 := by
          have e3 := congrArg (fun s : Str => s.cps.toList) (V.str.inj e2)
          have e4 : [c] = [32] := e3
          simpa using e4
        walk_at "r"
        refine ⟨p + 1, ts, _, rfl, g1, by omega, by omega, by omega, ?_, F⟩
        rw [← g3, h1, ptoks, if_pos ec]
      have ec : c ≠ 32 := fun e => e2 (by rw [e]; rfl)
      have sl : p + stepT (z.cps.toList.drop p) ≤ z.length := by
        have := stepT_le (c := c) (r := z.cps.toList.drop (p + 1))
        rw [← h1, List.length_drop] at this
        omega
      refine cut_ (fun σ' H2 => σ' = [some (.str z), some (.ref L), some (.int (p : Nat)), some (.int ((p + stepT (z.cps.toList.drop p) : Nat) : Int))] ∧ H2 = H') ?_ ?_
      · walk_at "r"
        refine ⟨z, (p : Nat), c, rfl, rfl, zs, h2, ?_⟩
        refine go ⟨c, rfl, ?_⟩
        walk_at "r"
        refine ifb_both (fun hb => ?_) (fun hb => ?_)
        · walk_at "r"
          refine go ⟨z, p, rfl, hp, hz, ?_⟩
          refine ⟨?_, rfl⟩
          have : stepT (z.cps.toList.drop p) = ((z.cps.toList.drop p).takeWhile runB).length := by
            rw [h1]; unfold stepT; simp only [hb, if_true]
          rw [this]; rfl
        · walk_at "r"
          rw [cut_p2 z p hp]
          intro a ha
          refine ⟨_, _, rfl, Or.inr (ha _), rfl, flat_strs DBL, _, rfl, ?_⟩
          have e5 : inV (.str (G.mk ((z.cps.toList.drop p).take 2))) (DBL.map V.str) = isDbl ((z.cps.toList.drop p).take 2) := inV_strs _ _
          have e6 : stepT (z.cps.toList.drop p) = if isDbl ((z.cps.toList.drop p).take 2) = true then 2 else 1 := by
            rw [h1]; unfold stepT; simp only [hb]; simp
          refine ifb_both (fun hd => ?_) (fun hd => ?_)
          · have hd : inV (.str (G.mk ((z.cps.toList.drop p).take 2))) (DBL.map V.str) = true := hd
            have e7 : stepT (z.cps.toList.drop p) = 2 := by rw [e6, if_pos (e5 ▸ hd)]
            rw [e7]
            walk_at "r"
            rfl
          · have hd : inV (.str (G.mk ((z.cps.toList.drop p).take 2))) (DBL.map V.str) = false := hd
            have e7 : stepT (z.cps.toList.drop p) = 1 := by rw [e6, if_neg (by rw [← e5, hd]; simp)]
            rw [e7]
            exact ⟨rfl, rfl⟩
      rintro σ' H2 ⟨rfl, rfl⟩
      walk_at "r"
      rw [cut_pq z p _ (by omega) sl, Nat.add_sub_cancel_left]
      refine ⟨L, _, _, rfl, rfl, g1, by rw [List.length_map]; show _ < 16777216; omega, ?_⟩
      refine ⟨_, rfl, ?_⟩
      refine ⟨p + stepT (z.cps.toList.drop p), ts ++ [G.mk ((z.cps.toList.drop p).take (stepT (z.cps.toList.drop p)))], _, rfl, by rw [upd_same]; simp, by omega, sl, by simp; omega, ?_, F.mut hL⟩
      rw [← g3, List.append_assoc]
      congr 1
      rw [← List.drop_drop]
      conv => rhs; rw [h1, ptoks, if_neg ec, ← h1]
      rfl
    · have : p = z.length := by omega
      subst this
      rw [← zl, List.drop_length, ptoks, List.append_nil] at g3
      walk_at "r"
      refine ⟨L, _, rfl, .inl ⟨SqL.of g1, fun l hl => ?_⟩⟩
      refine k _ _ ?_ (F.trans (Fr.new hl))
      rw [← g3]
      exact Da.new hl (das_strs ts)
end

section
variable {P : Program} {w : World} {K : PySem.W.Frag} {mg : Str → Option Value} {base : Heap}
def RUNS : Str := Str.ofString "abcdefghijklmnopqrstuvwxyzABCDEFGHIJKLMNOPQRSTUVWXYZ0123456789"
theorem runs_mem (c : Nat) : decide (c ∈ RUNS.cps.toList) = runB c := by
  have h : RUNS.cps.toList = (Str.ofString "abcdefghijklmnopqrstuvwxyz").cps.toList ++ (Str.ofString "ABCDEFGHIJKLMNOPQRSTUVWXYZ").cps.toList ++ (Str.ofString "0123456789").cps.toList := by decide +kernel
  unfold runB lowB digB capB
  rw [h, ← Bool.decide_or, ← Bool.decide_or]
  exact decide_eq_decide.mpr ⟨fun h => by
    rcases List.mem_append.mp h with h | h
    · rcases List.mem_append.mp h with h | h
      · exact .inl (.inl h)
      · exact .inr h
    · exact .inl (.inr h), fun h => by
    rcases h with (h | h) | h
    · exact List.mem_append.mpr (.inl (List.mem_append.mpr (.inl h)))
    · exact List.mem_append.mpr (.inr h)
    · exact List.mem_append.mpr (.inl (List.mem_append.mpr (.inr h)))⟩
def curS : Option (List Nat) → List Str
  | none => []
  | some t => [G.mk t]
theorem at_last {xs : List V} {y : V} : atI (xs ++ [y]) (((xs ++ [y]).length : Int) - 1) = some y := by
  have : (((xs ++ [y]).length : Int) - 1) = (xs.length : Nat) := by simp
  rw [this]
  exact atI_nat (by simp)
theorem ok_law_tokens (T : Top K mg) : Cal P w K mg base 1 "_law_tokens" (spToks K) := by
  refine cal T.d__law_tokens sc__law_tokens (fun vs H Q E h => ?_) (fun f cdv A outer s H vs Q E hr h => ?_)
  · obtain ⟨z, rfl, _⟩ := h
    rfl
  · obtain ⟨z, rfl, hz, k⟩ := h
    have zs : z.length ≤ sizeLine := Nat.le_trans hz (by decide)
    have zl := strsA_len z
    refine ⟨_, (pss_cons (ps_set (i := 1) sc__law_tokens.nd rfl (Or.inl rfl) pe_str)
    (pss_cons (ps_set (i := 2) sc__law_tokens.nd rfl (Or.inl rfl) (pe_lst pa_nil))
    (pss_cons (ps_set (i := 3) sc__law_tokens.nd rfl (Or.inl rfl) pe_bl)
    (pss_cons (ps_for PassesOwn.never rfl (pi_str (pv 0)) (pg_name (i := 4) sc__law_tokens.nd rfl (Or.inl rfl))
      (pss_cons (ps_set (i := 5) sc__law_tokens.nd rfl (Or.inl rfl) (pe_ifExp (pt_val (pv 3)) (pe_ix (G.ixL (K := K)) (pv 2) (pe_op op_sub (pe_callB (G.lenA (K := K)) (by rfl) T.b_len (by decide +kernel) (pa_cons (pv 2) pa_nil)) pe_int) (fun _ _ => rfl)) pe_str))
    (pss_one (ps_if (pt_cmpR op_eq (pv 4) pe_str (nomark _))
      (pss_one (ps_set (i := 3) sc__law_tokens.nd rfl (Or.inl rfl) pe_bl))
      (pss_one (ps_if (PW.pt (pw_and (pt_val (pv 3)) (pw_and1 (PW.pt (pw_or (pt_cmpR (G.inQ (K := K)) (pe_op op_add_str (pv 5) (pv 4)) (pe_tup (pa_cons pe_str (pa_cons pe_str (pa_cons pe_str (pa_cons pe_str pa_nil))))) (by rfl)) (pw_or1 (PW.pt (pw_and (pt_cmpR op_in_sign (pv 4) (pv 1) (by rfl)) (pw_and1 (pt_cmpR op_in_sign (pe_ix ix_str (pv 5) pe_int (fun _ _ => rfl)) (pv 1) (by rfl)))))))))))
      (pss_one (ps_asg (pe_op op_add_str (pv 5) (pv 4)) (pg_sub (pv 2) (pe_op op_sub (pe_callB (G.lenA (K := K)) (by rfl) T.b_len (by decide +kernel) (pa_cons (pv 2) pa_nil)) pe_int) set_list)))
      (pss_cons (ps_expr (G.bm (K := K) PySem.F.plainAttrs_list PySem.F.slot_list_append PySem.F.type_list_append mt_append (pv 2) (pa_cons (pv 4) pa_nil)))
    (pss_one (ps_set (i := 3) sc__law_tokens.nd rfl (Or.inl rfl) pe_bl)))))))))
    (pss_one (ps_ret (pe_callTy (G.tupOf (K := K)) (by rfl) T.b_tuple (by decide +kernel) (pa_cons (pv 2) pa_nil)))))))), ?_⟩
    walk_at "r"
    rename_i L hL
    refine for_it walk_str (fun i σ H' => ∃ (done : List Str) (cur : Option (List Nat)) (v4 v5 : Option V), σ = [some (.str z), some (.str RUNS), some (.ref L), some (.bl cur.isSome), v4, v5] ∧ H' L = some (.lst ((done ++ curS cur).map V.str)) ∧
        done ++ ltk cur (z.cps.toList.drop i) = ptoks z.cps.toList ∧ (done ++ curS cur).length ≤ i ∧ (∀ t, cur = some t → t ≠ [] ∧ t.length ≤ i) ∧ Fr [] H H')
      ⟨[], none, none, none, rfl, upd_same, by rw [List.nil_append]; exact toks_eq _, Nat.le_refl _, (fun t h => by cases h), Fr.new hL⟩ (fun _ _ _ _ _ => trivial) ?_ ?_
    · rintro i x σ H3 H4 hi ⟨done, cur, v4, v5, rfl, g1, g2, g3, g4, F⟩ ⟨rfl, c, ec, rfl⟩
      have hi' : i < z.length := hi
      have hd : z.cps.toList.drop i = c :: z.cps.toList.drop (i + 1) := by
        have hl : i < z.cps.toList.length := by omega
        have : z.cps.toList[i] = c := by
          have e := List.getElem?_eq_getElem hl
          rw [Array.getElem?_toList, ec] at e
          exact (Option.some.inj e).symm
        rw [List.drop_eq_getElem_cons hl, this]
      rw [hd] at g2
      have e32 : V.str ⟨#[c]⟩ = V.str (Str.ofString " ") ↔ c = 32 := ⟨fun e2 => by
          have e3 := congrArg (fun s : Str => s.cps.toList) (V.str.inj e2)
          have e4 : [c] = [32] := e3
          simpa using e4, fun e => by rw [e]; rfl⟩
      cases cur with
      | none =>
        simp only [ltk] at g2
        walk_at "r"
        refine if_both (fun e => ?_) (fun e => ?_)
        · have e := e32.mp e
          rw [if_pos e] at g2
          walk_at "r"
          exact ⟨done, none, _, _, rfl, g1, g2, by omega, (fun t h => by cases h), F⟩
        · rw [if_neg (fun q => e (e32.mpr q))] at g2
          walk_at "r"
          refine ⟨L, _, _, rfl, rfl, g1, by rw [List.length_map]; show _ < 16777216; omega, ?_⟩
          walk_at "r"
          exact ⟨done, some [c], _, _, rfl, by rw [upd_same]; simp [curS]; rfl, g2, by simp [curS] at g3 ⊢; omega, (fun t h => by cases h; simp), F.mut hL⟩
      | some t =>
        obtain ⟨t0, t1⟩ := g4 t rfl
        simp only [ltk] at g2
        have g1 : H4 L = some (.lst (done.map V.str ++ [.str (G.mk t)])) := by rw [g1]; simp [curS]
        have g3 : done.length + 1 ≤ i := by simpa [curS] using g3
        have lt : (G.mk t).length = t.length := G.mk_len t
        have l1 : (⟨#[c]⟩ : Str).length = 1 := rfl
        walk_at "r"
        refine ⟨L, _, _, _, rfl, rfl, SqL.of g1, at_last, ?_⟩
        walk_at "r"
        refine if_both (fun e => ?_) (fun e => ?_)
        · have e := e32.mp e
          rw [if_pos e] at g2
          walk_at "r"
          exact ⟨done ++ [G.mk t], none, _, _, rfl, by simpa [curS] using g1, by simpa using g2, by simp [curS]; omega, (fun t h => by cases h), F⟩
        rw [if_neg (fun q => e (e32.mpr q))] at g2
        refine cps_if (fun b H' => H' L = H4 L ∧ Fr [] H H' ∧ b = joins t c) ?_ ?_ ?_
        · intro Q q
          refine ⟨_, rfl, _, rfl, ?_⟩
          refine ifb_both (fun _ => ?_) (fun e => by cases e)
          walk_at "r"
          rename_i p hp
          have nLp : L ≠ p := ne_of_none g1 hp
          have N4 := Fr.new (S := []) (o := .tup [.str (Str.ofString ":="), .str (Str.ofString "/="), .str (Str.ofString "<="), .str (Str.ofString ">=")]) hp
          have eL : upd H4 p (.tup [.str (Str.ofString ":="), .str (Str.ofString "/="), .str (Str.ofString "<="), .str (Str.ofString ">=")]) L = H4 L := upd_ne nLp
          have ei : inV (.str (G.mk t ++ ⟨#[c]⟩)) [.str (Str.ofString ":="), .str (Str.ofString "/="), .str (Str.ofString "<="), .str (Str.ofString ">=")] = isDbl (t ++ [c]) := by
            rw [show (G.mk t ++ ⟨#[c]⟩ : Str) = G.mk (t ++ [c]) from G.mk_app t [c]]
            exact inV_strs _ DBL
          refine ifb_both (fun e6 => ?_) (fun e6 => ?_)
          · have e6 : inV (.str (G.mk t ++ ⟨#[c]⟩)) [.str (Str.ofString ":="), .str (Str.ofString "/="), .str (Str.ofString "<="), .str (Str.ofString ">=")] = true := e6
            rw [ei] at e6
            exact q _ _ ⟨eL, F.trans N4, by unfold joins; rw [e6]; rfl⟩
          have e6 : inV (.str (G.mk t ++ ⟨#[c]⟩)) [.str (Str.ofString ":="), .str (Str.ofString "/="), .str (Str.ofString "<="), .str (Str.ofString ">=")] = false := e6
          rw [ei] at e6
          walk_at "r"
          refine if_both (fun e7 => ?_) (fun e7 => ?_)
          · have e7 : runB c = true := by rw [← runs_mem]; exact decide_eq_true e7
            cases t with
            | nil => exact absurd rfl t0
            | cons a b =>
              walk_at "r"
              refine ⟨G.mk (a :: b), 0, a, rfl, rfl, by show _ ≤ 16777216; omega, atI_nat (j := 0) rfl, ?_⟩
              walk_at "r"
              refine q _ _ ⟨eL, F.trans N4, ?_⟩
              unfold joins
              rw [e6, e7]
              show decide (a ∈ RUNS.cps.toList) = (false || (true && runB a))
              rw [runs_mem]; rfl
          · have e7 : runB c = false := by rw [← runs_mem]; exact decide_eq_false e7
            refine q _ _ ⟨eL, F.trans N4, ?_⟩
            unfold joins
            rw [e6, e7]; rfl
        · rintro H5 ⟨e5, F5, hj⟩
          rw [if_pos hj.symm] at g2
          rw [g1] at e5
          walk_at "r"
          have en : (((done.map V.str ++ [V.str (G.mk t)]).length : Int) - 1) = (done.length : Nat) := by simp
          have es : (done.map V.str ++ [V.str (G.mk t)]).set done.length (.str (G.mk t ++ ⟨#[c]⟩)) = (done ++ curS (some (t ++ [c]))).map V.str := by
            rw [show (G.mk t ++ ⟨#[c]⟩ : Str) = G.mk (t ++ [c]) from G.mk_app t [c]]
            rw [List.set_append_right _ _ (by simp)]
            simp [curS]
          refine ⟨L, _, _, done.length, rfl, rfl, e5, by rw [en]; simp [ixN]; omega, ?_⟩
          rw [es]
          exact ⟨done, some (t ++ [c]), _, _, rfl, upd_same, g2, by simp [curS]; omega, (fun u h => by cases h; simp; omega), F5.mut hL⟩
        · rintro H5 ⟨e5, F5, hj⟩
          rw [if_neg (by rw [← hj]; simp)] at g2
          rw [g1] at e5
          walk_at "r"
          refine ⟨L, _, _, rfl, rfl, e5, by rw [List.length_append, List.length_map]; show _ + 1 < 16777216; omega, ?_⟩
          walk_at "r"
          exact ⟨done ++ [G.mk t], some [c], _, _, rfl, by rw [upd_same]; simp [curS]; rfl, by simpa using g2, by simp [curS]; omega, (fun t h => by cases h; simp), F5.mut hL⟩
    · rintro σ H3 ⟨done, cur, v4, v5, rfl, g1, g2, g3, g4, F⟩
      have g2 : done ++ curS cur = ptoks z.cps.toList := by
        rw [← g2]
        have : z.cps.toList.drop z.cps.size = [] := by rw [List.drop_eq_nil_of_le (by simp)]
        rw [this]
        cases cur <;> rfl
      walk_at "r"
      refine ⟨L, _, rfl, .inl ⟨SqL.of g1, fun l hl => ?_⟩⟩
      refine k _ _ ?_ (F.trans (Fr.new hl))
      rw [← g2]
      exact Da.new hl (das_strs _)
end

section
variable {P : Program} {w : World} {K : PySem.W.Frag} {mg : Str → Option Value} {base : Heap}
/-- texts in a list -/
def Txs (H : Hp) (p : Addr) (n : Nat) (b : Nat) : Prop := ∃ ts : List Str, H p = some (.lst (ts.map V.str)) ∧ ts.length = n ∧ ∀ t ∈ ts, t.length ≤ b
theorem Txs.f {H H' : Hp} {p d : Addr} {n b : Nat} (h : Txs H p n b) (F : Fr [d] H H') (ne : p ≠ d) : Txs H' p n b := by
  obtain ⟨ts, h1, h2⟩ := h
  exact ⟨ts, F.md _ _ h1 (by simp [ne]), h2⟩
theorem Txs.nil {H H' : Hp} {p : Addr} {n b : Nat} (h : Txs H p n b) (F : Fr [] H H') : Txs H' p n b := by
  obtain ⟨ts, h1, h2⟩ := h
  exact ⟨ts, F.md _ _ h1 (by simp), h2⟩
def spShuf : Sp := fun vs H Q _ => ∃ (d sc p : Addr) (n b : Nat), vs = [.ref d, .ref p] ∧ Dr H d sc ∧ Txs H p n b ∧ n ≤ 1000 ∧ p ≠ d ∧
  ∀ q H', Txs H' q n b → q ≠ d → Fr [d] H H' → Dr H' d sc → Q (.ref q) H'
theorem sq_ix {n : Nat} {r : Int} (h0 : 0 ≤ r) (h1 : r < (n : Int)) : seqIndex? r n = some r.toNat := by
  simp [seqIndex?, show ¬ r < 0 by omega, h0, h1]
theorem erase_map {α β : Type} (f : α → β) : ∀ (l : List α) (i : Nat), (l.map f).eraseIdx i = (l.eraseIdx i).map f
  | [], _ => rfl
  | _ :: _, 0 => rfl
  | x :: r, i + 1 => by simp [erase_map f r i]
theorem ok_law_shuffled (T : Top K mg) : Cal P w K mg base 2 "_law_shuffled" spShuf := by
  have c__law_draw : Cal P w K mg base 1 "_law_draw" spDraw := ok_law_draw T
  refine cal T.d__law_shuffled sc__law_shuffled (fun vs H Q E h => ?_) (fun f cdv A outer s H vs Q E hr h => ?_)
  · obtain ⟨d, sc, p, n, b, rfl, _⟩ := h
    rfl
  · obtain ⟨d, sc, p, n, b, rfl, hD, ⟨ts, hT, tn, tb⟩, hn, hpd, k⟩ := h
    refine ⟨_, (pss_cons (ps_set (i := 2) sc__law_shuffled.nd rfl (Or.inr rfl) (pe_callTy (G.lstOf (K := K)) (by rfl) T.b_list (by decide +kernel) (pa_cons (pv 1) pa_nil)))
    (pss_one (ps_ret (pe_lc (own := [("k", 3)]) rfl sc__law_shuffled.nd (pi_range1 (by rfl) T.b_range (pa_cons (pe_callB (G.lenA (K := K)) (by rfl) T.b_len (by decide +kernel) (pa_cons (pv 1) pa_nil)) pa_nil)) (blkOk_by (N := N__law_shuffled) (sc := defScope s__law_shuffled) (by decide +kernel)) (fun _ _ _ _ _ => (pg_name (i := 3) sc__law_shuffled.nd rfl (Or.inl rfl))) (fun _ _ _ _ _ => pts_nil) (fun _ _ _ _ _ => (G.bm (K := K) PySem.F.plainAttrs_list PySem.F.slot_list_pop PySem.F.type_list_pop mt_popAt (pv 2) (pa_cons (G.pe_c c__law_draw hr (by omega) rfl (pa_cons (pv 0) (pa_cons (pe_callB (G.lenA (K := K)) (by rfl) T.b_len (by decide +kernel) (pa_cons (pv 2) pa_nil)) pa_nil))) pa_nil))))))), ?_⟩
    refine ⟨_, rfl, p, _, rfl, .inl (SqL.of hT), fun l hl => ?_⟩
    have nld := hD.ne_d hl
    have nls := hD.ne_sc hl
    have npl : p ≠ l := ne_of_none hT hl
    have T1 : upd H l (.lst (ts.map V.str)) p = some (.lst (ts.map V.str)) := by rw [upd_ne npl]; exact hT
    walk_at "r"
    intro L hL
    rw [List.length_map, tn]
    have D1 := hD.new (o := .lst (ts.map V.str)) hl
    have nLd := D1.ne_d hL
    have nLs := D1.ne_sc hL
    have nLl : L ≠ l := fun e => by rw [e, upd_same] at hL; cases hL
    refine lc_range (fun i H' => ∃ (us ls : List Str), H' L = some (.lst (us.map V.str)) ∧ us.length = i ∧ H' l = some (.lst (ls.map V.str)) ∧ ls.length + i = n ∧ (∀ t ∈ us, t.length ≤ b) ∧ (∀ t ∈ ls, t.length ≤ b) ∧ Fr [d] H H' ∧ Dr H' d sc)
      ⟨[], ts, upd_same, rfl, by rw [upd_ne nLl.symm]; exact upd_same, by omega, (fun _ h => by cases h), tb, (Fr.new hl).trans (Fr.new hL), D1.new hL⟩ ?_ ?_
    · rintro i H4 hi ⟨us, ls, g1, g2, g3, g4, g5, g6, F4, D4⟩
      have hi : i < n := by simpa using hi
      have l0 : 0 < ls.length := by omega
      refine ⟨rfl, ?_⟩
      walk_at "r"
      rename_i hz
      rw [List.length_map]
      refine go ⟨d, sc, _, rfl, D4, by omega, by omega, fun r H5 r0 r1 F5 D5 => ?_⟩
      have e3 := F5.md _ _ g3 (by simp [nld])
      have e1 := F5.md _ _ g1 (by simp [nLd])
      have hr' : r.toNat < ls.length := by omega
      refine ⟨l, _, r, r.toNat, .str ls[r.toNat], rfl, rfl, e3, by omega, by omega, sq_ix r0 (by rw [List.length_map]; omega), by rw [List.getElem?_map, List.getElem?_eq_getElem hr']; rfl, ?_⟩
      have es : (ls.map V.str).eraseIdx r.toNat = (ls.eraseIdx r.toNat).map V.str := erase_map _ _ _
      refine ⟨_, by rw [upd_ne nLl]; exact e1, by rw [List.length_map, sl16]; omega, us ++ [ls[r.toNat]], ls.eraseIdx r.toNat, by rw [upd_same]; simp, by simp [g2], by rw [upd_ne nLl.symm, upd_same, es], by rw [List.length_eraseIdx, if_pos hr']; omega, ?_, ?_, ?_, ?_⟩
      · intro t ht
        rcases List.mem_append.mp ht with h | h
        · exact g5 t h
        · rw [List.mem_singleton.mp h]; exact g6 _ (List.getElem_mem hr')
      · exact fun t ht => g6 t (List.mem_of_mem_eraseIdx ht)
      · exact ((F4.trans F5).mut hl).mut (Fr.fresh (S := []) (Fr.new hl) hL (by simp))
      · exact (D5.put nld nls).put nLd nLs
    · rintro H4 ⟨us, ls, g1, g2, g3, g4, g5, g6, F4, D4⟩
      exact k L H4 ⟨us, g1, by simpa using g2, g5⟩ nLd F4 D4
theorem Txs.of {H : Hp} {p : Addr} {b : Nat} {xs : List V} (ts : List Str) (h : H p = some (.lst xs)) (e : xs = ts.map V.str) (hb : ∀ t ∈ ts, t.length ≤ b) : Txs H p ts.length b := ⟨ts, by rw [h, e], rfl, hb⟩
def B1 : List Str := (["", " "] : List String).map Str.ofString
theorem B1_len : ∀ s ∈ B1, s.length ≤ 1 := by decide +kernel
theorem ok_law_sure_line (T : Top K mg) : Cal P w K mg base 6 "_law_sure_line" (fun vs H Q _ => ∃ (d sc : Addr), vs = [.ref d] ∧ Dr H d sc ∧ Out d sc H 2000 Q) := by
  have c__law_pick : Cal P w K mg base 2 "_law_pick" (spPick K) := ok_law_pick T
  have c__law_draw : Cal P w K mg base 1 "_law_draw" spDraw := ok_law_draw T
  have c__law_run : Cal P w K mg base 3 "_law_run" spRun := ok_law_run T
  have c__law_near : Cal P w K mg base 3 "_law_near" spNear := ok_law_near T
  have c__law_reserved : Cal P w K mg base 1 "_law_reserved" spResv := ok_law_reserved T
  have c__law_digits : Cal P w K mg base 4 "_law_digits" spDigits := ok_law_digits T
  have c__law_short : Cal P w K mg base 4 "_law_short" spShort := ok_law_short T
  have c__law_shuffled : Cal P w K mg base 2 "_law_shuffled" spShuf := ok_law_shuffled T
  refine cal T.d__law_sure_line sc__law_sure_line (fun vs H Q E h => ?_) (fun f cdv A outer s H vs Q E hr h => ?_)
  · obtain ⟨d, sc, rfl, _⟩ := h
    rfl
  · obtain ⟨d, sc, rfl, hD, k⟩ := h
    refine ⟨_, (pss_cons (ps_set (i := 1) sc__law_sure_line.nd rfl (Or.inr rfl) pe_str)
    (pss_cons (ps_set (i := 2) sc__law_sure_line.nd rfl (Or.inl rfl) (pe_lst (pa_cons (G.pe_c c__law_short hr (by omega) rfl (pa_cons (pv 0) (pa_cons pe_int pa_nil))) (pa_cons (G.pe_c c__law_short hr (by omega) rfl (pa_cons (pv 0) (pa_cons pe_int pa_nil))) (pa_cons (pe_op op_add_str pe_str (pe_slice sl_str (G.pe_c c__law_digits hr (by omega) rfl (pa_cons (pv 0) pa_nil)) po_none (po_some pe_int))) (pa_cons pe_str (pa_cons (G.pe_c c__law_pick hr (by omega) rfl (pa_cons (pv 0) (pa_cons (G.pe_c0 c__law_reserved hr (by omega) rfl) pa_nil))) pa_nil)))))))
    (pss_cons (ps_expr (G.bm (K := K) PySem.F.plainAttrs_list PySem.F.slot_list_extend PySem.F.type_list_extend mt_extend (pv 2) (pa_cons (pe_lc (own := [("many", 6)]) rfl sc__law_sure_line.nd (G.piL (K := K) (pe_lst (pa_cons pe_int (pa_cons pe_int pa_nil)))) (blkOk_by (N := N__law_sure_line) (sc := defScope s__law_sure_line) (by decide +kernel)) (fun _ _ _ _ _ => (pg_name (i := 6) sc__law_sure_line.nd rfl (Or.inl rfl))) (fun _ _ _ _ _ => pts_nil) (fun _ _ _ _ _ => (pe_op op_add_str (G.pe_c c__law_pick hr (by omega) rfl (pa_cons (pv 0) (pa_cons pe_str pa_nil))) (G.pe_c c__law_run hr (by omega) rfl (pa_cons (pv 0) (pa_cons (pv 1) (pa_cons (pv 6) pa_nil))))))) pa_nil)))
    (pss_cons (ps_expr (G.bm (K := K) PySem.F.plainAttrs_list PySem.F.slot_list_append PySem.F.type_list_append mt_append (pv 2) (pa_cons (G.pe_c c__law_near hr (by omega) rfl (pa_cons (pv 0) (pa_cons (G.pe_c c__law_pick hr (by omega) rfl (pa_cons (pv 0) (pa_cons (G.pe_c0 c__law_reserved hr (by omega) rfl) pa_nil))) pa_nil))) pa_nil)))
    (pss_cons (ps_expr (G.bm (K := K) PySem.F.plainAttrs_list PySem.F.slot_list_append PySem.F.type_list_append mt_append (pv 2) (pa_cons (pe_op op_add_str (pe_op op_add_str (G.pe_c c__law_short hr (by omega) rfl (pa_cons (pv 0) (pa_cons (G.pe_c c__law_draw hr (by omega) rfl (pa_cons (pv 0) (pa_cons pe_int pa_nil))) pa_nil))) (G.pe_c c__law_pick hr (by omega) rfl (pa_cons (pv 0) (pa_cons pe_str pa_nil)))) (G.pe_c c__law_short hr (by omega) rfl (pa_cons (pv 0) (pa_cons (G.pe_c c__law_draw hr (by omega) rfl (pa_cons (pv 0) (pa_cons pe_int pa_nil))) pa_nil)))) pa_nil)))
    (pss_cons (ps_set (i := 3) sc__law_sure_line.nd rfl (Or.inl rfl) (G.pe_c c__law_shuffled hr (by omega) rfl (pa_cons (pv 0) (pa_cons (pe_lst (pa_cons pe_str (pa_cons pe_str (pa_cons pe_str (pa_cons pe_str (pa_cons pe_str (pa_cons pe_str (pa_cons pe_str (pa_cons pe_str (pa_cons (G.pe_c c__law_pick hr (by omega) rfl (pa_cons (pv 0) (pa_cons (pe_lst (pa_cons pe_str (pa_cons pe_str (pa_cons pe_str (pa_cons pe_str pa_nil))))) pa_nil))) pa_nil)))))))))) pa_nil))))
    (pss_cons (ps_set (i := 2) sc__law_sure_line.nd rfl (Or.inl rfl) (G.pe_c c__law_shuffled hr (by omega) rfl (pa_cons (pv 0) (pa_cons (pv 2) pa_nil))))
    (pss_cons (ps_set (i := 4) sc__law_sure_line.nd rfl (Or.inl rfl) pe_str)
    (pss_cons (ps_for PassesOwn.never rfl (pi_range1 (by rfl) T.b_range (pa_cons (pe_callB (G.lenA (K := K)) (by rfl) T.b_len (by decide +kernel) (pa_cons (pv 2) pa_nil)) pa_nil)) (pg_name (i := 5) sc__law_sure_line.nd rfl (Or.inl rfl))
      (pss_one (ps_set (i := 4) sc__law_sure_line.nd rfl (Or.inl rfl) (pe_op op_add_str (pe_op op_add_str (pe_op op_add_str (pe_op op_add_str (pv 4) (pe_ix (G.ixL (K := K)) (pv 2) (pv 5) (fun _ _ => rfl))) (G.pe_c c__law_pick hr (by omega) rfl (pa_cons (pv 0) (pa_cons (pe_lst (pa_cons pe_str (pa_cons pe_str pa_nil))) pa_nil)))) (pe_ix (G.ixL (K := K)) (pv 3) (pv 5) (fun _ _ => rfl))) (G.pe_c c__law_pick hr (by omega) rfl (pa_cons (pv 0) (pa_cons (pe_lst (pa_cons pe_str (pa_cons pe_str pa_nil))) pa_nil)))))))
    (pss_one (ps_ret (pv 4)))))))))))), ?_⟩
    walk_at "r"
    refine go ⟨d, sc, 11, rfl, hD, by omega, by omega, fun a1 H1 _ l1 F1 D1 => ?_⟩
    walk_at "r"
    refine go ⟨d, sc, 12, rfl, D1, by omega, by omega, fun a2 H2 _ l2 F2 D2 => ?_⟩
    walk_at "r"
    refine go ⟨d, sc, rfl, D2, fun a3 H3 l3 F3 D3 => ?_⟩
    have l3' := cutS_length a3 none (some 8)
    have l0 : (Str.ofString "0").length = 1 := rfl
    walk_at "r"
    refine go ⟨rfl, fun p4 hp4 => ?_⟩
    refine go (pkL D3 hp4 (by decide +kernel) (by decide +kernel) fun a4 H4 hs4 F4 D4 => ?_)
    have l4 := RES_len a4 hs4
    have F4 := ((F1.trans F2).trans F3).trans F4
    walk_at "r"
    rename_i R hR
    have nRd := D4.ne_d hR
    have nRs := D4.ne_sc hR
    have D5 := D4.new (o := .lst [.str a1, .str a2, .str (Str.ofString "0" ++ cutS a3 none (some 8)), .str "0", .str a4]) hR
    have X5 : Txs (upd H4 R (.lst [.str a1, .str a2, .str (Str.ofString "0" ++ cutS a3 none (some 8)), .str "0", .str a4])) R 5 20 := by
      refine Txs.of [a1, a2, Str.ofString "0" ++ cutS a3 none (some 8), "0", a4] upd_same rfl ?_
      intro t ht
      simp only [List.mem_cons, List.not_mem_nil, or_false] at ht
      rcases ht with rfl | rfl | rfl | rfl | rfl
      · omega
      · omega
      · rw [len_app]; omega
      · decide
      · omega
    have F5 : Fr [d] H (upd H4 R (.lst [.str a1, .str a2, .str (Str.ofString "0" ++ cutS a3 none (some 8)), .str "0", .str a4])) := F4.trans (Fr.new hR)
    have hR0 := (F4.fresh hR (by simp [nRd]))
    generalize upd H4 R (.lst [.str a1, .str a2, .str (Str.ofString "0" ++ cutS a3 none (some 8)), .str "0", .str a4]) = H5 at D5 X5 F5 ⊢
    clear F1 F2 F3 D1 D2 D3 l1 l2 l3 l3' D4 hs4 l4 hR hp4
    obtain ⟨ts5, e5, n5, b5⟩ := X5
    refine ⟨Or.inl ⟨rfl, _, SqL.of e5⟩, ?_⟩
    refine ⟨sz100 rfl, fun p6 hp6 => ⟨p6, rfl, ⟨_, SqL.of upd_same⟩, fun L hL => lc_list (K := K) (a := p6) (xs := [V.int 8, V.int 9]) (fun i H' => ∃ ts : List Str, H' L = some (.lst (ts.map V.str)) ∧ ts.length = i ∧ (∀ t ∈ ts, t.length ≤ 20) ∧ H' p6 = some (.lst [V.int 8, V.int 9]) ∧ Fr [d] H5 H' ∧ Dr H' d sc)
      ⟨[], upd_same, rfl, (fun _ h => by cases h), by rw [upd_ne (ne_of_none upd_same hL)]; exact upd_same, (Fr.new hp6).trans (Fr.new hL), (D5.new hp6).new hL⟩ (fun i H' _ ⟨_, _, _, _, e, _⟩ => SqL.of e) ?_ ?_⟩⟩
    · rintro i x H6 hx ⟨ts, g1, g2, g3, g4, F6, D6⟩
      have nL6 : L ≠ p6 := fun e => by rw [e, upd_same] at hL; cases hL
      have nLd := (D5.new (o := .lst [V.int 8, V.int 9]) hp6).ne_d hL
      have nLs := (D5.new (o := .lst [V.int 8, V.int 9]) hp6).ne_sc hL
      have n6d := D5.ne_d hp6
      obtain ⟨m, rfl, m0, m1⟩ : ∃ m : Int, x = .int m ∧ 0 ≤ m ∧ m ≤ 9 := by
        match i, hx with
        | 0, hx => exact ⟨8, by simpa using hx.symm, by omega, by omega⟩
        | 1, hx => exact ⟨9, by simpa using hx.symm, by omega, by omega⟩
        | i + 2, hx => simp at hx
      have hi2 : i < 2 := by simpa using (List.getElem?_eq_some_iff.mp hx).1
      refine ⟨rfl, ?_⟩
      walk_at "r"
      refine go (pk D6 (by decide +kernel) (by decide +kernel) fun a H7 ha F7 D7 => ?_)
      walk_at "r"
      refine go ⟨d, sc, _, _, rfl, D7, by decide +kernel, by decide +kernel, m0, by omega, fun b H8 hb F8 D8 => ?_⟩
      walk_at "r"
      have F8 := F7.trans F8
      refine ⟨_, F8.md _ _ g1 (by simp [nLd]), by rw [List.length_map, sl16]; omega, ts ++ [a ++ b], by rw [upd_same]; simp, by simp [g2], ?_, by rw [upd_ne nL6.symm]; exact F8.md _ _ g4 (by simp [n6d]), (F6.trans F8).mut (Fr.fresh (S := []) (Fr.new hp6) hL (by simp)), D8.put nLd nLs⟩
      intro t ht
      rcases List.mem_append.mp ht with h | h
      · exact g3 t h
      · rw [List.mem_singleton.mp h, len_app]; omega
    rintro H6 ⟨ts6, g1, g2, g3, g4, F6, D6⟩
    have nRL : R ≠ L := fun e => by
      have : (upd H5 p6 (.lst [V.int 8, V.int 9])) R = some (.lst (ts5.map V.str)) := by rw [upd_ne (ne_of_none e5 hp6)]; exact e5
      rw [e, hL] at this; cases this
    have e6 := F6.md _ _ e5 (by simp [nRd])
    refine ⟨R, L, _, _, rfl, rfl, e6, g1, by rw [List.length_map, List.length_map, n5]; show 5 + ts6.length ≤ 16777216; rw [g2]; decide, ?_⟩
    have FR := (F5.trans F6).mut (o := .lst (ts5.map V.str ++ ts6.map V.str)) hR0
    have X7 : Txs (upd H6 R (.lst (ts5.map V.str ++ ts6.map V.str))) R 7 20 := ⟨ts5 ++ ts6, by rw [upd_same, List.map_append], by rw [List.length_append, n5, g2]; rfl, fun t ht => by
      rcases List.mem_append.mp ht with h | h
      · exact b5 t h
      · exact g3 t h⟩
    have D7 := D6.put (o := .lst (ts5.map V.str ++ ts6.map V.str)) nRd nRs
    generalize upd H6 R (.lst (ts5.map V.str ++ ts6.map V.str)) = H7 at FR X7 D7 ⊢
    clear D6 F6 g1 g2 g3 g4 e6 F5 D5 e5 n5 b5 hp6 hL
    obtain ⟨ts7, e7, n7, b7⟩ := X7
    walk_at "n"
    walk_at "r"
    refine go ⟨rfl, fun p4 hp4 => ?_⟩
    refine go (pkL D7 hp4 (by decide +kernel) (by decide +kernel) fun a8 H8 hs8 F8 D8 => ?_)
    have l8 := RES_len a8 hs8
    walk_at "r"
    refine go ⟨d, sc, a8, rfl, D8, by omega, by omega, fun a9 H9 l9 F9 D9 => ?_⟩
    have F9 := F8.trans F9
    have e9 := F9.md _ _ e7 (by simp [nRd])
    refine ⟨R, _, _, rfl, rfl, e9, by rw [List.length_map, n7]; decide, ?_⟩
    have FR := (FR.trans F9).mut (o := .lst (ts7.map V.str ++ [.str a9])) hR0
    have X9 : Txs (upd H9 R (.lst (ts7.map V.str ++ [.str a9]))) R 8 20 := ⟨ts7 ++ [a9], by rw [upd_same, List.map_append]; rfl, by rw [List.length_append, n7]; rfl, fun t ht => by
      rcases List.mem_append.mp ht with h | h
      · exact b7 t h
      · rw [List.mem_singleton.mp h]; omega⟩
    have D9 := D9.put (o := .lst (ts7.map V.str ++ [.str a9])) nRd nRs
    generalize upd H9 R (.lst (ts7.map V.str ++ [.str a9])) = H9 at FR X9 D9 ⊢
    obtain ⟨ts9, e9, n9, b9⟩ := X9
    walk_at "n"
    walk_at "r"
    refine go ⟨d, sc, 4, rfl, D9, by omega, by omega, fun r1 Ha _ _ Fa Da => ?_⟩
    walk_at "r"
    refine go ⟨d, sc, r1, rfl, Da, by omega, by omega, fun s1 Hb _ lb Fb Db => ?_⟩
    walk_at "r"
    refine go (pk Db (by decide +kernel) (by decide +kernel) fun s2 Hc lc Fc Dc => ?_)
    walk_at "r"
    refine go ⟨d, sc, 3, rfl, Dc, by omega, by omega, fun r2 Hd _ _ Fd Dd => ?_⟩
    walk_at "r"
    refine go ⟨d, sc, r2, rfl, Dd, by omega, by omega, fun s3 He _ le Fe De => ?_⟩
    walk_at "r"
    have Fx := (((Fa.trans Fb).trans Fc).trans Fd).trans Fe
    have e10 := Fx.md _ _ e9 (by simp [nRd])
    refine ⟨R, _, _, rfl, rfl, e10, by rw [List.length_map, n9]; decide, ?_⟩
    have FR := (FR.trans Fx).mut (o := .lst (ts9.map V.str ++ [.str (s1 ++ s2 ++ s3)])) hR0
    have X10 : Txs (upd He R (.lst (ts9.map V.str ++ [.str (s1 ++ s2 ++ s3)]))) R 9 20 := ⟨ts9 ++ [s1 ++ s2 ++ s3], by rw [upd_same, List.map_append]; rfl, by rw [List.length_append, n9]; rfl, fun t ht => by
      rcases List.mem_append.mp ht with h | h
      · exact b9 t h
      · rw [List.mem_singleton.mp h, len_app, len_app]; omega⟩
    have D10 := De.put (o := .lst (ts9.map V.str ++ [.str (s1 ++ s2 ++ s3)])) nRd nRs
    generalize upd He R (.lst (ts9.map V.str ++ [.str (s1 ++ s2 ++ s3)])) = H10 at FR X10 D10 ⊢
    clear Fx e10 De Dd Dc Db Da Fa Fb Fc Fd Fe e9 n9 b9 D9 e7 n7 b7 D7
    walk_at "n"
    walk_at "r"
    rename_i p11 hp11
    refine go (pkL (ys := ([">", "/", "-", "("] : List String).map Str.ofString) D10 hp11 (by decide) (by decide) fun s11 H11 hs11 F11 D11 => ?_)
    have l11 : s11.length ≤ 1 := (by decide +kernel : ∀ s ∈ ([">", "/", "-", "("] : List String).map Str.ofString, s.length ≤ 1) s11 hs11
    walk_at "r"
    rename_i p12 hp12
    have n12 := D11.ne_d hp12
    refine go ⟨d, sc, p12, 9, 20, rfl, D11.new hp12, Txs.of ((([":=", "/=", "<=", ">=", ":", "=", "<", "+"] : List String).map Str.ofString) ++ [s11]) upd_same rfl ?_, by omega, n12, fun p13 H13 X13 n13 F13 D13 => ?_⟩
    · intro t ht
      rcases List.mem_append.mp ht with h | h
      · exact (by decide +kernel : ∀ s ∈ ([":=", "/=", "<=", ">=", ":", "=", "<", "+"] : List String).map Str.ofString, s.length ≤ 20) t h
      · rw [List.mem_singleton.mp h]; omega
    have F13 := F11.trans ((Fr.new hp12).trans F13)
    have X13r := X10.f F13 nRd
    have FR := FR.trans F13
    walk_at "n"
    walk_at "r"
    refine go ⟨d, sc, R, 9, 20, rfl, D13, X13r, by omega, nRd, fun p14 H14 X14 n14 F14 D14 => ?_⟩
    have Y14 := X13.f F14 n13
    have FR := FR.trans F14
    obtain ⟨rs, r1, r2, r3⟩ := X14
    obtain ⟨gs, g1, g2, g3⟩ := Y14
    walk_at "n"
    walk_at "r"
    rw [List.length_map, r2]
    refine for_range (fun i σ H' => ∃ (t : Str) (v : Option V), σ = [some (.ref d), some (.str "0123456789"), some (.ref p14), some (.ref p13), some (.str t), v, none] ∧ t.length ≤ 42 * i ∧ Fr [d] H14 H' ∧ Dr H' d sc)
      ⟨_, _, rfl, Nat.zero_le _, Fr.refl _, D14⟩ ?_ ?_
    · rintro i σ H2 hi ⟨t, v3, rfl, tl, F2, D2⟩
      have hi : i < 9 := hi
      have er := F2.md _ _ r1 (by simp [n14])
      have eg := F2.md _ _ g1 (by simp [n13])
      have hir : i < rs.length := by omega
      have hig : i < gs.length := by omega
      have hr3 := r3 _ (List.getElem_mem hir)
      have hg3 := g3 _ (List.getElem_mem hig)
      walk_at "r"
      refine ⟨_, _, _, _, rfl, rfl, SqL.of er, by rw [Int.zero_add]; exact atI_nat (by rw [List.getElem?_map, List.getElem?_eq_getElem hir]; rfl), ?_⟩
      walk_at "r"
      rename_i p hp
      refine go (pkL (ys := B1) D2 hp (by decide) (by decide) fun s H3 hs F3 D3 => ?_)
      have := B1_len s hs
      have eg := F3.md _ _ eg (by simp [n13])
      walk_at "r"
      refine ⟨_, _, _, _, rfl, rfl, SqL.of eg, by rw [Int.zero_add]; exact atI_nat (by rw [List.getElem?_map, List.getElem?_eq_getElem hig]; rfl), ?_⟩
      walk_at "r"
      rename_i p' hp'
      refine go (pkL (ys := B1) D3 hp' (by decide) (by decide) fun s4 H4 hs4 F4 D4 => ?_)
      have := B1_len s4 hs4
      walk_at "r"
      exact ⟨by simp only [len_app]; omega, (F2.trans F3).trans F4, D4⟩
    · rintro σ H2 ⟨t, v3, rfl, tl, F2, D2⟩
      walk_at "r"
      exact k _ _ (by omega) (FR.trans F2) D2
theorem ok_law_words (T : Top K mg) : Cal P w K mg base 6 "_law_words" (fun vs H Q _ => ∃ (d sc : Addr), vs = [.ref d] ∧ Dr H d sc ∧ ∀ p n H', n ≤ 100 → Txs H' p n 1000 → Fr [d] H H' → Dr H' d sc → Q (.ref p) H') := by
  have c__law_pick : Cal P w K mg base 2 "_law_pick" (spPick K) := ok_law_pick T
  have c__law_draw : Cal P w K mg base 1 "_law_draw" spDraw := ok_law_draw T
  have c__law_run : Cal P w K mg base 3 "_law_run" spRun := ok_law_run T
  have c__law_near : Cal P w K mg base 3 "_law_near" spNear := ok_law_near T
  have c__law_reserved : Cal P w K mg base 1 "_law_reserved" spResv := ok_law_reserved T
  have c__law_short : Cal P w K mg base 4 "_law_short" spShort := ok_law_short T
  have c__law_any_sign : Cal P w K mg base 3 "_law_any_sign" spSign := ok_law_any_sign T
  have c__law_piece : Cal P w K mg base 5 "_law_piece" spPiece := ok_law_piece T
  refine cal T.d__law_words sc__law_words (fun vs H Q E h => ?_) (fun f cdv A outer s H vs Q E hr h => ?_)
  · obtain ⟨d, sc, rfl, _⟩ := h
    rfl
  · obtain ⟨d, sc, rfl, hD, k⟩ := h
    refine ⟨_, (pss_cons (ps_set (i := 1) sc__law_words.nd rfl (Or.inl rfl) (G.pe_c c__law_short hr (by omega) rfl (pa_cons (pv 0) (pa_cons (G.pe_c c__law_draw hr (by omega) rfl (pa_cons (pv 0) (pa_cons pe_int pa_nil))) pa_nil))))
    (pss_cons (ps_set (i := 2) sc__law_words.nd rfl (Or.inl rfl) (G.pe_c c__law_near hr (by omega) rfl (pa_cons (pv 0) (pa_cons (G.pe_c c__law_pick hr (by omega) rfl (pa_cons (pv 0) (pa_cons (G.pe_c0 c__law_reserved hr (by omega) rfl) pa_nil))) pa_nil))))
    (pss_cons (ps_set (i := 3) sc__law_words.nd rfl (Or.inl rfl) (G.pe_c c__law_draw hr (by omega) rfl (pa_cons (pv 0) (pa_cons (pe_op op_add (pe_callB (G.lenA (K := K)) (by rfl) T.b_len (by decide +kernel) (pa_cons (pv 1) pa_nil)) pe_int) pa_nil))))
    (pss_cons (ps_set (i := 4) sc__law_words.nd rfl (Or.inl rfl) (pe_lst (pa_cons pe_str (pa_cons (pv 1) (pa_cons (pe_op op_add_str (pv 1) pe_str) (pa_cons (pv 2) (pa_cons (pe_op op_add_str (pv 2) (G.pe_c c__law_any_sign hr (by omega) rfl (pa_cons (pv 0) pa_nil))) (pa_cons (pe_op op_add_str (pe_op op_add_str (pe_slice sl_str (pv 1) po_none (po_some (pv 3))) (G.pe_c c__law_any_sign hr (by omega) rfl (pa_cons (pv 0) pa_nil))) (pe_slice sl_str (pv 1) (po_some (pv 3)) po_none)) pa_nil))))))))
    (pss_one (ps_ret (pe_op op_cat (pv 4) (pe_lst (pa_cons (pe_op op_add_str (G.pe_c c__law_piece hr (by omega) rfl (pa_cons (pv 0) pa_nil)) (G.pe_c c__law_piece hr (by omega) rfl (pa_cons (pv 0) pa_nil))) (pa_cons (G.pe_c c__law_run hr (by omega) rfl (pa_cons (pv 0) (pa_cons pe_str (pa_cons (G.pe_c c__law_draw hr (by omega) rfl (pa_cons (pv 0) (pa_cons pe_int pa_nil))) pa_nil)))) pa_nil)))))))))), ?_⟩
    walk_at "r"
    refine go ⟨d, sc, 12, rfl, hD, by omega, by omega, fun r1 H1 _ _ F1 D1 => ?_⟩
    walk_at "r"
    refine go ⟨d, sc, r1, rfl, D1, by omega, by omega, fun nm H2 n1 n2 F2 D2 => ?_⟩
    walk_at "n"
    walk_at "r"
    refine go ⟨rfl, fun p4 hp4 => ?_⟩
    refine go (pkL D2 hp4 (by decide +kernel) (by decide +kernel) fun a4 H4 hs4 F4 D4 => ?_)
    have l4 := RES_len a4 hs4
    walk_at "r"
    refine go ⟨d, sc, a4, rfl, D4, by omega, by omega, fun nr H5 l5 F5 D5 => ?_⟩
    have F5 := ((F1.trans F2).trans F4).trans F5
    walk_at "n"
    walk_at "r"
    have zs : nm.length ≤ sizeLine := by rw [sl16]; omega
    refine ⟨.str nm, nm.length, rfl, ⟨zs, rfl⟩, fun _ => ?_⟩
    walk_at "r"
    refine go ⟨d, sc, _, rfl, D5, by omega, by omega, fun r6 H6 q0 q1 F6 D6 => ?_⟩
    walk_at "r"
    refine go ⟨d, sc, rfl, D6, fun s7 H7 l7 F7 D7 => ?_⟩
    have cl := cutS_length nm none (some r6)
    have cm := cutS_length nm (some r6) none
    walk_at "r"
    refine go ⟨d, sc, rfl, D7, fun s8 H8 l8 F8 D8 => ?_⟩
    walk_at "r"
    rename_i W hW
    have nWd := D8.ne_d hW
    have D9 := D8.new (o := .lst [.str "", .str nm, .str (nm ++ Str.ofString "\n"), .str nr, .str (nr ++ s7), .str (cutS nm none (some r6) ++ s8 ++ cutS nm (some r6) none)]) hW
    refine go ⟨d, sc, rfl, D9, fun s9 H9 l9 F9 D9 => ?_⟩
    walk_at "r"
    refine go ⟨d, sc, rfl, D9, fun s10 H10 l10 F10 D10 => ?_⟩
    walk_at "r"
    refine go ⟨d, sc, 14, rfl, D10, by omega, by omega, fun r11 H11 _ _ F11 D11 => ?_⟩
    walk_at "r"
    refine go ⟨d, sc, _, _, rfl, D11, by decide +kernel, by decide +kernel, by omega, by omega, fun s12 H12 l12 F12 D12 => ?_⟩
    walk_at "r"
    rename_i V' hV
    have eW := (F9.trans (F10.trans (F11.trans F12))).md W _ (upd_same : upd H8 W (.lst [.str "", .str nm, .str (nm ++ Str.ofString "\n"), .str nr, .str (nr ++ s7), .str (cutS nm none (some r6) ++ s8 ++ cutS nm (some r6) none)]) W = _) (by simp [nWd])
    have nWV := ne_of_none eW hV
    refine ⟨W, V', _, _, rfl, rfl, by rw [upd_ne nWV]; exact eW, upd_same, by show 6 + 2 ≤ 16777216; omega, fun p hp => ?_⟩
    refine k p 8 _ (by omega) (Txs.of ["", nm, nm ++ Str.ofString "\n", nr, nr ++ s7, cutS nm none (some r6) ++ s8 ++ cutS nm (some r6) none, s9 ++ s10, s12] upd_same rfl ?_) ?_ ((D12.new hV).new hp)
    · intro t ht
      have ln : (Str.ofString "\n").length = 1 := rfl
      have le : (Str.ofString "").length = 0 := rfl
      simp only [List.mem_cons, List.not_mem_nil, or_false] at ht
      rcases ht with rfl | rfl | rfl | rfl | rfl | rfl | rfl | rfl <;> (try simp only [len_app]) <;> (first | omega | (rw [le]; omega))
    · exact (((((((F5.trans F6).trans F7).trans F8).trans (Fr.new hW)).trans F9).trans F10).trans F11).trans (F12.trans ((Fr.new hV).trans (Fr.new hp)))
end

section
variable {P : Program} {w : World} {K : PySem.W.Frag} {mg : Str → Option Value} {base : Heap}
def spLaw (K : PySem.W.Frag) : Sp := fun vs H Q _ => ∃ (a : Addr) (ns : List Int), vs = [.ref a] ∧ SqL K H a (ns.map V.int) ∧ ns.length ≤ 63 ∧ ∀ H', Q (.bl true) H'
/-- the tokens of a line as data -/
def tk (s : Str) : D := .tup ((ptoks s.cps.toList).map D.str)
theorem depths_strs : ∀ ts : List Str, D.depths (ts.map D.str) ≤ 1
  | [] => by simp [D.depths]
  | t :: ts => by have := depths_strs ts; simp only [List.map_cons, D.depths, D.depth]; omega
theorem tk_depth (s : Str) : (tk s).depth ≤ 2 := by
  have := depths_strs (ptoks s.cps.toList)
  simp only [tk, D.depth]; omega
theorem das_un {H : Hp} : ∀ {xs : List V} {ts : List Str}, Das K H xs (ts.map D.str) → xs = ts.map V.str
  | _, [], h => by cases h; rfl
  | _, t :: ts, h => by
    obtain ⟨v, vs, rfl, h1, h2⟩ := h.un1
    rw [das_un h2, h1.is_str]; rfl
theorem toks_len : ∀ (n : Nat) (l : List Nat), l.length ≤ n → ∀ s ∈ ptoks l, s.length ≤ n
  | 0, l, h, s, hs => by
    have : l = [] := List.length_eq_zero_iff.mp (by omega)
    subst this
    rw [ptoks] at hs; cases hs
  | n + 1, [], h, s, hs => by rw [ptoks] at hs; cases hs
  | n + 1, c :: r, h, s, hs => by
    rw [ptoks] at hs
    split at hs
    · exact Nat.le_succ_of_le (toks_len n r (by simpa using h) s hs)
    · rcases List.mem_cons.mp hs with e | e
      · rw [e, G.mk_len, List.length_take]
        omega
      · have st := stepT_pos (c :: r)
        refine Nat.le_succ_of_le (toks_len n _ ?_ s e)
        rw [List.length_drop]
        omega
structure Wd (K : PySem.W.Frag) (H : Hp) (li du wd : Addr) (ls : List Str) (vs : List V) (ws : List Str) : Prop where
  e1 : H li = some (.lst (ls.map V.str))
  e2 : H du = some (.lst vs)
  e3 : Das K H vs (ls.map tk)
  e4 : H wd = some (.lst (ws.map V.str))
theorem Wd.f {H H' : Hp} {li du wd : Addr} {ls : List Str} {vs : List V} {ws : List Str} (w : Wd K H li du wd ls vs ws) (F : Fr [] H H') : Wd K H' li du wd ls vs ws :=
  ⟨F.md _ _ w.e1 (by simp), F.md _ _ w.e2 (by simp), w.e3.f F, F.md _ _ w.e4 (by simp)⟩
theorem ok_law {f : Addr} {fd : FuncData} (T : Top K mg) (F : Fun K "law" "law" s_law f fd) : FnOk P w K mg base CX0 7 f fd ["script"] (spLaw K) := by
  have c__law_begin : Cal P w K mg base 1 "_law_begin" (spBegin K) := ok_law_begin T
  have c__law_pick : Cal P w K mg base 2 "_law_pick" (spPick K) := ok_law_pick T
  have c__law_line := ok_law_line (P := P) (w := w) (base := base) T
  have c__law_sure_line := ok_law_sure_line (P := P) (w := w) (base := base) T
  have c__law_words := ok_law_words (P := P) (w := w) (base := base) T
  have c__law_tokens := ok_law_tokens (P := P) (w := w) (base := base) T
  have c__law_reserved := ok_law_reserved (P := P) (w := w) (base := base) T
  have c_tokens_of := ok_tokens_of (P := P) (w := w) (base := base) T
  have c_is_name := ok_is_name (P := P) (w := w) (base := base) T
  have c_is_number := ok_is_number (P := P) (w := w) (base := base) T
  have c__law_is_name := ok_law_is_name (P := P) (w := w) (base := base) T
  have c__law_is_number := ok_law_is_number (P := P) (w := w) (base := base) T
  have c__law_same : Cal P w K mg base (2 + 2) "_law_same" (spSame K 2) := ok_law_same T 2
  refine F.ok sc_law (fun vs H Q E h => ?_) (fun cdv A outer s H vs Q E hr h => ?_)
  · obtain ⟨a, ns, rfl, _⟩ := h
    rfl
  · obtain ⟨a, ns0, rfl, hS, hl, k⟩ := h
    refine ⟨_, (pss_cons (ps_set (i := 1) sc_law.nd rfl (Or.inl rfl) (G.pe_c c__law_begin hr (by omega) rfl (pa_cons (pv 0) pa_nil)))
    (pss_cons (ps_set (i := 2) sc_law.nd rfl (Or.inl rfl) (G.pe_c c__law_line hr (by omega) rfl (pa_cons (pv 1) (pa_cons (G.pe_c c__law_pick hr (by omega) rfl (pa_cons (pv 1) (pa_cons (pe_lst (pa_cons pe_int (pa_cons pe_int (pa_cons pe_int (pa_cons pe_int (pa_cons pe_int (pa_cons pe_int (pa_cons pe_int pa_nil)))))))) pa_nil))) pa_nil))))
    (pss_cons (ps_set (i := 3) sc_law.nd rfl (Or.inl rfl) (pe_op G.repS (G.pe_c c__law_line hr (by omega) rfl (pa_cons (pv 1) (pa_cons (G.pe_c c__law_pick hr (by omega) rfl (pa_cons (pv 1) (pa_cons (pe_lst (pa_cons pe_int (pa_cons pe_int (pa_cons pe_int (pa_cons pe_int (pa_cons pe_int pa_nil)))))) pa_nil))) pa_nil))) (G.pe_c c__law_pick hr (by omega) rfl (pa_cons (pv 1) (pa_cons (pe_lst (pa_cons pe_int (pa_cons pe_int (pa_cons pe_int (pa_cons pe_int (pa_cons pe_int pa_nil)))))) pa_nil)))))
    (pss_cons (ps_set (i := 4) sc_law.nd rfl (Or.inl rfl) (pe_lst (pa_cons (pv 2) (pa_cons (pv 3) (pa_cons (G.pe_c c__law_sure_line hr (by omega) rfl (pa_cons (pv 1) pa_nil)) pa_nil)))))
    (pss_cons (ps_set (i := 5) sc_law.nd rfl (Or.inl rfl) (G.pe_c c__law_words hr (by omega) rfl (pa_cons (pv 1) pa_nil)))
    (pss_cons (ps_setLc (i := 6) (own := [("line", 11)]) rfl sc_law.nd rfl rfl (sw_true rfl rfl rfl (by decide +kernel)) (G.piL (K := K) (pv 4)) (blkOk_by (N := N_law) (sc := defScope s_law) (by decide +kernel)) (fun _ _ _ _ _ => (pg_name (i := 11) sc_law.nd rfl (Or.inl rfl))) (fun _ _ _ _ _ => pts_nil) (fun _ _ _ _ _ => (G.pe_c c__law_tokens hr (by omega) rfl (pa_cons (pv 11) pa_nil))))
    (pss_cons (ps_if (pt_not (pt_val (G.pe_c c__law_same hr (by omega) rfl (pa_cons (G.globT rfl T.g_RESERVED) (pa_cons (pe_callTy (G.tupOf (K := K)) (by rfl) T.b_tuple (by decide +kernel) (pa_cons (G.pe_c0 c__law_reserved hr (by omega) rfl) pa_nil)) pa_nil)))))
      (pss_one (ps_ret pe_bl))
      pss_nil)
    (pss_cons (ps_for PassesOwn.never rfl (pi_range1 (by rfl) T.b_range (pa_cons pe_int pa_nil)) (pg_name (i := 7) sc_law.nd rfl (Or.inl rfl))
      (pss_one (ps_if (pt_not (pt_val (G.pe_c c__law_same hr (by omega) rfl (pa_cons (G.pe_c c_tokens_of hr (by omega) rfl (pa_cons (pe_ix (G.ixL (K := K)) (pv 4) (pv 7) (fun _ _ => rfl)) pa_nil)) (pa_cons (pe_ix (G.ixL (K := K)) (pv 6) (pv 7) (fun _ _ => rfl)) pa_nil)))))
      (pss_one (ps_ret pe_bl))
      pss_nil)))
    (pss_cons (ps_for PassesOwn.never rfl (G.piL (K := K) (pv 6)) (pg_name (i := 8) sc_law.nd rfl (Or.inl rfl))
      (pss_one (ps_for PassesOwn.never rfl (G.piT (K := K) (pv 8)) (pg_name (i := 9) sc_law.nd rfl (Or.inl rfl))
      (pss_cons (ps_if (pt_not (pt_val (G.pe_c c__law_same hr (by omega) rfl (pa_cons (G.pe_c c_is_name hr (by omega) rfl (pa_cons (pv 9) pa_nil)) (pa_cons (G.pe_c c__law_is_name hr (by omega) rfl (pa_cons (pv 9) pa_nil)) pa_nil)))))
      (pss_one (ps_ret pe_bl))
      pss_nil)
    (pss_one (ps_if (pt_not (pt_val (G.pe_c c__law_same hr (by omega) rfl (pa_cons (G.pe_c c_is_number hr (by omega) rfl (pa_cons (pv 9) pa_nil)) (pa_cons (G.pe_c c__law_is_number hr (by omega) rfl (pa_cons (pv 9) pa_nil)) pa_nil)))))
      (pss_one (ps_ret pe_bl))
      pss_nil))))))
    (pss_cons (ps_for PassesOwn.never rfl (G.piL (K := K) (pv 5)) (pg_name (i := 10) sc_law.nd rfl (Or.inl rfl))
      (pss_one (ps_if (pt_not (pt_val (G.pe_c c__law_same hr (by omega) rfl (pa_cons (G.pe_c c_is_name hr (by omega) rfl (pa_cons (pv 10) pa_nil)) (pa_cons (G.pe_c c__law_is_name hr (by omega) rfl (pa_cons (pv 10) pa_nil)) pa_nil)))))
      (pss_one (ps_ret pe_bl))
      pss_nil)))
    (pss_one (ps_ret (G.pe_c c__law_same hr (by omega) rfl (pa_cons (G.pe_c c_tokens_of hr (by omega) rfl (pa_cons (pv 2) pa_nil)) (pa_cons (pe_ix (G.ixL (K := K)) (pv 6) pe_int (fun _ _ => rfl)) pa_nil))))))))))))))), ?_⟩
    walk_at "r"
    refine go ⟨a, ns0, rfl, hS, hl, fun d sc H1 _ _ _ D1 => ?_⟩
    walk_at "r"
    rename_i p hp
    refine go (pkI (ns := [3, 0, 1, 6, 10, 2, 40]) (lo := 0) (hi := 40) (by decide) D1 hp (by decide) (by decide) fun m1 H2 m0 m1 F2 D2 => ?_)
    refine go ⟨d, sc, _, rfl, D2, m0, by omega, fun l1 H3 hl1 F3 D3 => ?_⟩
    have hl1 : l1.length ≤ 10000 := by omega
    walk_at "r"
    rename_i p hp
    refine go (pkI (ns := [2, 5, 1, 12, 3]) (lo := 0) (hi := 12) (by decide) D3 hp (by decide) (by decide) fun m2 H4 m0 m1 F4 D4 => ?_)
    refine go ⟨d, sc, _, rfl, D4, m0, by omega, fun l2' H5 hl2 F5 D5 => ?_⟩
    walk_at "r"
    rename_i p hp
    refine go (pkI (ns := [1, 1, 2, 1, 5]) (lo := 1) (hi := 5) (by decide) D5 hp (by decide) (by decide) fun m3 H6 q0 q1 F6 D6 => ?_)
    refine ⟨_, _, rfl, rfl, by omega, by omega, by omega, fun l2 hl2 => ?_⟩
    have hl2 : l2.length ≤ 10000 := by
      have q : l2'.length * m3.toNat ≤ 264 * 5 := Nat.mul_le_mul (by omega) (by omega)
      omega
    walk_at "r"
    refine go ⟨d, sc, rfl, D6, fun l3 H7 hl3 F7 D7 => ?_⟩
    walk_at "r"
    rename_i li hli
    have nld := D7.ne_d hli
    refine go ⟨d, sc, rfl, D7.new hli, fun wd n H8 hn Y8 F8 D8 => ?_⟩
    have e8 := F8.md li _ (upd_same : upd H7 li (.lst [.str l1, .str l2, .str l3]) li = _) (by simp [nld])
    obtain ⟨ws, w1, w2, w3⟩ := Y8
    walk_at "r"
    have hall : ∀ s ∈ [l1, l2, l3], s.length ≤ 100000 := by
      intro s hs
      simp only [List.mem_cons, List.not_mem_nil, or_false] at hs
      rcases hs with rfl | rfl | rfl <;> omega
    clear hl1 hl2 hl3 D8 D7 F8 F7 w2 hn
    refine ⟨⟨_, SqL.of e8⟩, fun du hdu => lc_list (K := K) (a := li) (xs := [l1, l2, l3].map V.str) (fun i H' => ∃ vs, H' du = some (.lst vs) ∧ Das K H' vs (([l1, l2, l3].take i).map tk) ∧ vs.length ≤ i ∧ Fr [] H8 H')
      ⟨[], upd_same, .nil, Nat.le_refl _, Fr.new hdu⟩ (fun i H' _ ⟨_, _, _, _, F⟩ => SqL.of (F.md _ _ e8 (by simp))) ?_ ?_⟩
    · rintro i x H9 hx ⟨vs, g1, g2, g3, F9⟩
      obtain ⟨s, rfl, hs⟩ : ∃ s, x = .str s ∧ [l1, l2, l3][i]? = some s := by
        rw [List.getElem?_map] at hx
        cases e : [l1, l2, l3][i]? with
        | none => rw [e] at hx; cases hx
        | some s => rw [e] at hx; exact ⟨s, (Option.some.inj hx).symm, rfl⟩
      have hi : i < 3 := (List.getElem?_eq_some_iff.mp hs).1
      refine ⟨rfl, ?_⟩
      walk_at "r"
      refine go ⟨s, rfl, hall s (List.mem_of_getElem? hs), fun v H10 a10 F10 => ?_⟩
      have g1' := F10.md _ _ g1 (by simp)
      have Fx := Fr.putL (S := [du]) (o := .lst (vs ++ [v])) (by simp) g1'
      refine ⟨vs, g1', by show _ < 16777216; omega, vs ++ [v], upd_same, ?_, by simp; omega, (F9.trans F10).mut hdu⟩
      rw [List.take_add_one, hs, List.map_append]
      exact Das.app ((g2.f F10).f Fx) (.cons (a10.f Fx) .nil)
    rintro H9 ⟨vs, g1, g2, g3, F9⟩
    have W9 : Wd K H9 li du wd [l1, l2, l3] vs ws := ⟨F9.md _ _ e8 (by simp), g1, g2, F9.md _ _ w1 (by simp)⟩
    generalize hls : [l1, l2, l3] = ls at W9 hall
    have hn : ls.length = 3 := by rw [← hls]; rfl
    clear g1 g2 g3 F9 hdu e8 w1
    walk_at "r"
    intro ar har
    walk_at "r"
    refine go ⟨rfl, fun p hp => ?_⟩
    refine ⟨p, _, rfl, .inl ⟨SqL.of upd_same, fun t ht => ?_⟩⟩
    have dl := depths_strs RES
    refine go ⟨.ref ar, .ref t, .tup (RES.map D.str), .tup (RES.map D.str), rfl, .tup (har _) (das_strs _), Da.new ht (das_strs _), by simp only [D.depth]; omega, fun H10 F10 => ?_⟩
    have W10 := W9.f (((Fr.new hp).trans (Fr.new ht)).trans F10)
    rw [D.same_refl]
    walk_at "r"
    clear W9 hp ht F10 har dl
    refine for_range (fun i σ H' => ∃ v7 v8 v9 v10, σ = [some (.ref a), some (.ref d), some (.str l1), some (.str l2), some (.ref li), some (.ref wd), some (.ref du), v7, v8, v9, v10, none] ∧ Wd K H' li du wd ls vs ws) ⟨_, _, _, _, rfl, W10⟩ ?_ ?_
    · rintro i σ H' hi ⟨v7, v8, v9, v10, rfl, W⟩
      have hi : i < 3 := hi
      have hi2 : i < ls.length := by omega
      have lv := W.e3.len
      rw [List.length_map] at lv
      have hi3 : i < vs.length := by omega
      obtain ⟨dd, ed, ad⟩ := W.e3.get (List.getElem?_eq_getElem hi3)
      have ed : dd = tk ls[i] := by
        rw [List.getElem?_map, List.getElem?_eq_getElem hi2] at ed
        exact (Option.some.inj ed).symm
      subst ed
      walk_at "r"
      refine ⟨_, _, _, _, rfl, rfl, SqL.of W.e1, by rw [Int.zero_add]; exact atI_nat (by rw [List.getElem?_map, List.getElem?_eq_getElem hi2]; rfl), ?_⟩
      refine go ⟨ls[i], rfl, hall _ (List.getElem_mem hi2), fun v H2 av F2 => ?_⟩
      have W2 := W.f F2
      walk_at "r"
      refine ⟨_, _, _, _, rfl, rfl, SqL.of W2.e2, by rw [Int.zero_add]; exact atI_nat (List.getElem?_eq_getElem hi3), ?_⟩
      refine go ⟨v, vs[i], tk ls[i], tk ls[i], rfl, av, ad.f F2, tk_depth _, fun H3 F3 => ?_⟩
      rw [D.same_refl]
      walk_at "r"
      exact ⟨_, _, _, _, rfl, W2.f F3⟩
    rintro σ H' ⟨v7, v8, v9, v10, rfl, W⟩
    -- what is asked of a word
    have two : ∀ (b : Bool) (H : Hp) (Q : VK) (E : XK), (∀ H2, Fr [] H H2 → Q (.bl true) H2) → spSame K 2 [.bl b, .bl b] H Q E := fun b H Q E q => ⟨.bl b, .bl b, .bl b, .bl b, rfl, .bl b, .bl b, by simp [D.depth], fun H2 F2 => by rw [D.same_refl]; exact q H2 F2⟩
    walk_at "n"
    walk_at "r"
    refine ⟨⟨_, SqL.of W.e2⟩, for_list (K := K) (a := du) (xs := vs) (fun i σ H' => ∃ v7 v8 v9 v10, σ = [some (.ref a), some (.ref d), some (.str l1), some (.str l2), some (.ref li), some (.ref wd), some (.ref du), v7, v8, v9, v10, none] ∧ Wd K H' li du wd ls vs ws) ⟨_, _, _, _, rfl, W⟩ (fun i σ H' _ ⟨_, _, _, _, _, W⟩ => SqL.of W.e2) ?_ ?_⟩
    · clear W v7 v8 v9 v10 W10
      rintro i x σ H' hx ⟨v7, v8, v9, v10, rfl, W⟩
      obtain ⟨dd, ed, ad⟩ := W.e3.get hx
      obtain ⟨s, hs, rfl⟩ : ∃ s, s ∈ ls ∧ dd = tk s := by
        rw [List.getElem?_map] at ed
        cases e : ls[i]? with
        | none => rw [e] at ed; cases ed
        | some s => rw [e] at ed; exact ⟨s, List.mem_of_getElem? e, (Option.some.inj ed).symm⟩
      obtain ⟨q, xs, rfl, hT, hxs⟩ := ad.un
      have hxs := das_un hxs
      subst hxs
      walk_at "r"
      refine ⟨⟨_, hT⟩, for_it (walk_tup (K := K) (a := q) (xs := (ptoks s.cps.toList).map V.str)) (fun i σ H' => ∃ v7 v8 v9 v10, σ = [some (.ref a), some (.ref d), some (.str l1), some (.str l2), some (.ref li), some (.ref wd), some (.ref du), v7, v8, v9, v10, none] ∧ Wd K H' li du wd ls vs ws ∧ SqT K H' q ((ptoks s.cps.toList).map V.str)) ⟨_, _, _, _, rfl, W, hT⟩ (fun i σ H' _ ⟨_, _, _, _, _, _, h⟩ => h) ?_ ?_⟩
      · clear W hT v7 v8 v9 v10
        rintro i x σ H1 H2 hi ⟨v7, v8, v9, v10, rfl, W, hT⟩ ⟨rfl, hx⟩
        obtain ⟨t, rfl, ht⟩ := mem_str (List.mem_of_getElem? hx)
        have tl : t.length ≤ 100000 := by
          have := toks_len s.cps.toList.length s.cps.toList (Nat.le_refl _) t ht
          rw [strsA_len] at this
          have := hall s hs
          omega
        walk_at "r"
        refine go ⟨t, rfl, tl, fun H3 F3 => ?_⟩
        walk_at "r"
        refine go ⟨t, rfl, tl, fun H4 F4 => ?_⟩
        refine go (two _ _ _ _ fun H5 F5 => ?_)
        have Fx := (F3.trans F4).trans F5
        walk_at "r"
        refine go ⟨t, rfl, tl, fun H6 F6 => ?_⟩
        walk_at "r"
        refine go ⟨t, rfl, tl, fun H7 F7 => ?_⟩
        refine go (two _ _ _ _ fun H8 F8 => ?_)
        have Fx := ((Fx.trans F6).trans F7).trans F8
        walk_at "r"
        exact ⟨_, _, _, _, rfl, W.f Fx, Fx.sqT hT⟩
      · rintro σ H2 ⟨v7, v8, v9, v10, rfl, W, hT⟩
        exact ⟨_, _, _, _, rfl, W⟩
    clear W v7 v8 v9 v10 W10
    rintro σ H' ⟨v7, v8, v9, v10, rfl, W⟩
    walk_at "n"
    walk_at "r"
    refine ⟨⟨_, SqL.of W.e4⟩, for_list (K := K) (a := wd) (xs := ws.map V.str) (fun i σ H' => ∃ v7 v8 v9 v10, σ = [some (.ref a), some (.ref d), some (.str l1), some (.str l2), some (.ref li), some (.ref wd), some (.ref du), v7, v8, v9, v10, none] ∧ Wd K H' li du wd ls vs ws) ⟨_, _, _, _, rfl, W⟩ (fun i σ H' _ ⟨_, _, _, _, _, W⟩ => SqL.of W.e4) ?_ ?_⟩
    · clear W v7 v8 v9 v10
      rintro i x σ H' hx ⟨v7, v8, v9, v10, rfl, W⟩
      obtain ⟨t, rfl, ht⟩ := mem_str (List.mem_of_getElem? hx)
      have tl : t.length ≤ 100000 := by have := w3 t ht; omega
      walk_at "r"
      refine go ⟨t, rfl, tl, fun H3 F3 => ?_⟩
      walk_at "r"
      refine go ⟨t, rfl, tl, fun H4 F4 => ?_⟩
      refine go (two _ _ _ _ fun H5 F5 => ?_)
      walk_at "r"
      exact ⟨_, _, _, _, rfl, W.f ((F3.trans F4).trans F5)⟩
    clear W v7 v8 v9 v10
    rintro σ H' ⟨v7, v8, v9, v10, rfl, W⟩
    have lv := W.e3.len
    rw [List.length_map, hn] at lv
    obtain ⟨dd, ed, ad⟩ := W.e3.get (List.getElem?_eq_getElem (show 0 < vs.length by omega))
    have ed : dd = tk l1 := by
      rw [← hls] at ed
      exact (Option.some.inj ed).symm
    subst ed
    walk_at "r"
    refine go ⟨l1, rfl, hall _ (by rw [← hls]; simp), fun v H2 av F2 => ?_⟩
    have W2 := W.f F2
    walk_at "r"
    refine ⟨_, _, _, _, rfl, rfl, SqL.of W2.e2, atI_nat (j := 0) (List.getElem?_eq_getElem (show 0 < vs.length by omega)), ?_⟩
    refine go ⟨v, vs[0], tk l1, tk l1, rfl, av, ad.f F2, tk_depth _, fun H3 F3 => ?_⟩
    rw [D.same_refl]
    exact k _
end

theorem all_mk {l : PySem.W.OpenLaw} {w : World} {K : PySem.W.Frag} {h : Heap} {mg : Str → Option Value} {fa : Addr} (X : K.In h) (G : h.Ns mainGlobals mg) (hfa : mg "law" = some (.ref fa))
    {f0 : Addr} {od0 an0 : Option Addr} {sl0 : Array (Option Value)} {oc0 kV0 dc0 pm0 cd0 ct0 : Value}
    (a0 : PySem.W.nsIn K mainGlobals "is_name" = some (some (.ref f0))) (l0 : K.lookup f0 = some ⟨oc0, od0, .func (PySem.W.fnOf "is_name" "is_name" (defArgs s_is_name) (defBody s_is_name) (defScope s_is_name) .none kV0 dc0 pm0 an0 cd0 ct0), sl0⟩) (c0 : PySem.W.codeIn K cd0 "is_name" = true) (k0 : PySem.W.keepIn K (.ref f0) = true)
    {f1 : Addr} {od1 an1 : Option Addr} {sl1 : Array (Option Value)} {oc1 kV1 dc1 pm1 cd1 ct1 : Value}
    (a1 : PySem.W.nsIn K mainGlobals "is_run_sign" = some (some (.ref f1))) (l1 : K.lookup f1 = some ⟨oc1, od1, .func (PySem.W.fnOf "is_run_sign" "is_run_sign" (defArgs s_is_run_sign) (defBody s_is_run_sign) (defScope s_is_run_sign) .none kV1 dc1 pm1 an1 cd1 ct1), sl1⟩) (c1 : PySem.W.codeIn K cd1 "is_run_sign" = true) (k1 : PySem.W.keepIn K (.ref f1) = true)
    {f2 : Addr} {od2 an2 : Option Addr} {sl2 : Array (Option Value)} {oc2 kV2 dc2 pm2 cd2 ct2 : Value}
    (a2 : PySem.W.nsIn K mainGlobals "end_of_run" = some (some (.ref f2))) (l2 : K.lookup f2 = some ⟨oc2, od2, .func (PySem.W.fnOf "end_of_run" "end_of_run" (defArgs s_end_of_run) (defBody s_end_of_run) (defScope s_end_of_run) .none kV2 dc2 pm2 an2 cd2 ct2), sl2⟩) (c2 : PySem.W.codeIn K cd2 "end_of_run" = true) (k2 : PySem.W.keepIn K (.ref f2) = true)
    {f3 : Addr} {od3 an3 : Option Addr} {sl3 : Array (Option Value)} {oc3 kV3 dc3 pm3 cd3 ct3 : Value}
    (a3 : PySem.W.nsIn K mainGlobals "tokens_of" = some (some (.ref f3))) (l3 : K.lookup f3 = some ⟨oc3, od3, .func (PySem.W.fnOf "tokens_of" "tokens_of" (defArgs s_tokens_of) (defBody s_tokens_of) (defScope s_tokens_of) .none kV3 dc3 pm3 an3 cd3 ct3), sl3⟩) (c3 : PySem.W.codeIn K cd3 "tokens_of" = true) (k3 : PySem.W.keepIn K (.ref f3) = true)
    {f4 : Addr} {od4 an4 : Option Addr} {sl4 : Array (Option Value)} {oc4 kV4 dc4 pm4 cd4 ct4 : Value}
    (a4 : PySem.W.nsIn K mainGlobals "is_number" = some (some (.ref f4))) (l4 : K.lookup f4 = some ⟨oc4, od4, .func (PySem.W.fnOf "is_number" "is_number" (defArgs s_is_number) (defBody s_is_number) (defScope s_is_number) .none kV4 dc4 pm4 an4 cd4 ct4), sl4⟩) (c4 : PySem.W.codeIn K cd4 "is_number" = true) (k4 : PySem.W.keepIn K (.ref f4) = true)
    {f5 : Addr} {od5 an5 : Option Addr} {sl5 : Array (Option Value)} {oc5 kV5 dc5 pm5 cd5 ct5 : Value}
    (a5 : PySem.W.nsIn K mainGlobals "_law_begin" = some (some (.ref f5))) (l5 : K.lookup f5 = some ⟨oc5, od5, .func (PySem.W.fnOf "_law_begin" "_law_begin" (defArgs s__law_begin) (defBody s__law_begin) (defScope s__law_begin) .none kV5 dc5 pm5 an5 cd5 ct5), sl5⟩) (c5 : PySem.W.codeIn K cd5 "_law_begin" = true) (k5 : PySem.W.keepIn K (.ref f5) = true)
    {f6 : Addr} {od6 an6 : Option Addr} {sl6 : Array (Option Value)} {oc6 kV6 dc6 pm6 cd6 ct6 : Value}
    (a6 : PySem.W.nsIn K mainGlobals "_law_draw" = some (some (.ref f6))) (l6 : K.lookup f6 = some ⟨oc6, od6, .func (PySem.W.fnOf "_law_draw" "_law_draw" (defArgs s__law_draw) (defBody s__law_draw) (defScope s__law_draw) .none kV6 dc6 pm6 an6 cd6 ct6), sl6⟩) (c6 : PySem.W.codeIn K cd6 "_law_draw" = true) (k6 : PySem.W.keepIn K (.ref f6) = true)
    {f7 : Addr} {od7 an7 : Option Addr} {sl7 : Array (Option Value)} {oc7 kV7 dc7 pm7 cd7 ct7 : Value}
    (a7 : PySem.W.nsIn K mainGlobals "_law_pick" = some (some (.ref f7))) (l7 : K.lookup f7 = some ⟨oc7, od7, .func (PySem.W.fnOf "_law_pick" "_law_pick" (defArgs s__law_pick) (defBody s__law_pick) (defScope s__law_pick) .none kV7 dc7 pm7 an7 cd7 ct7), sl7⟩) (c7 : PySem.W.codeIn K cd7 "_law_pick" = true) (k7 : PySem.W.keepIn K (.ref f7) = true)
    {f8 : Addr} {od8 an8 : Option Addr} {sl8 : Array (Option Value)} {oc8 kV8 dc8 pm8 cd8 ct8 : Value}
    (a8 : PySem.W.nsIn K mainGlobals "_law_shuffled" = some (some (.ref f8))) (l8 : K.lookup f8 = some ⟨oc8, od8, .func (PySem.W.fnOf "_law_shuffled" "_law_shuffled" (defArgs s__law_shuffled) (defBody s__law_shuffled) (defScope s__law_shuffled) .none kV8 dc8 pm8 an8 cd8 ct8), sl8⟩) (c8 : PySem.W.codeIn K cd8 "_law_shuffled" = true) (k8 : PySem.W.keepIn K (.ref f8) = true)
    {f9 : Addr} {od9 an9 : Option Addr} {sl9 : Array (Option Value)} {oc9 kV9 dc9 pm9 cd9 ct9 : Value}
    (a9 : PySem.W.nsIn K mainGlobals "_law_is_int" = some (some (.ref f9))) (l9 : K.lookup f9 = some ⟨oc9, od9, .func (PySem.W.fnOf "_law_is_int" "_law_is_int" (defArgs s__law_is_int) (defBody s__law_is_int) (defScope s__law_is_int) .none kV9 dc9 pm9 an9 cd9 ct9), sl9⟩) (c9 : PySem.W.codeIn K cd9 "_law_is_int" = true) (k9 : PySem.W.keepIn K (.ref f9) = true)
    {f10 : Addr} {od10 an10 : Option Addr} {sl10 : Array (Option Value)} {oc10 kV10 dc10 pm10 cd10 ct10 : Value}
    (a10 : PySem.W.nsIn K mainGlobals "_law_same" = some (some (.ref f10))) (l10 : K.lookup f10 = some ⟨oc10, od10, .func (PySem.W.fnOf "_law_same" "_law_same" (defArgs s__law_same) (defBody s__law_same) (defScope s__law_same) .none kV10 dc10 pm10 an10 cd10 ct10), sl10⟩) (c10 : PySem.W.codeIn K cd10 "_law_same" = true) (k10 : PySem.W.keepIn K (.ref f10) = true)
    {f11 : Addr} {od11 an11 : Option Addr} {sl11 : Array (Option Value)} {oc11 kV11 dc11 pm11 cd11 ct11 : Value}
    (a11 : PySem.W.nsIn K mainGlobals "_law_reserved" = some (some (.ref f11))) (l11 : K.lookup f11 = some ⟨oc11, od11, .func (PySem.W.fnOf "_law_reserved" "_law_reserved" (defArgs s__law_reserved) (defBody s__law_reserved) (defScope s__law_reserved) .none kV11 dc11 pm11 an11 cd11 ct11), sl11⟩) (c11 : PySem.W.codeIn K cd11 "_law_reserved" = true) (k11 : PySem.W.keepIn K (.ref f11) = true)
    {f12 : Addr} {od12 an12 : Option Addr} {sl12 : Array (Option Value)} {oc12 kV12 dc12 pm12 cd12 ct12 : Value}
    (a12 : PySem.W.nsIn K mainGlobals "_law_is_name" = some (some (.ref f12))) (l12 : K.lookup f12 = some ⟨oc12, od12, .func (PySem.W.fnOf "_law_is_name" "_law_is_name" (defArgs s__law_is_name) (defBody s__law_is_name) (defScope s__law_is_name) .none kV12 dc12 pm12 an12 cd12 ct12), sl12⟩) (c12 : PySem.W.codeIn K cd12 "_law_is_name" = true) (k12 : PySem.W.keepIn K (.ref f12) = true)
    {f13 : Addr} {od13 an13 : Option Addr} {sl13 : Array (Option Value)} {oc13 kV13 dc13 pm13 cd13 ct13 : Value}
    (a13 : PySem.W.nsIn K mainGlobals "_law_is_number" = some (some (.ref f13))) (l13 : K.lookup f13 = some ⟨oc13, od13, .func (PySem.W.fnOf "_law_is_number" "_law_is_number" (defArgs s__law_is_number) (defBody s__law_is_number) (defScope s__law_is_number) .none kV13 dc13 pm13 an13 cd13 ct13), sl13⟩) (c13 : PySem.W.codeIn K cd13 "_law_is_number" = true) (k13 : PySem.W.keepIn K (.ref f13) = true)
    {f14 : Addr} {od14 an14 : Option Addr} {sl14 : Array (Option Value)} {oc14 kV14 dc14 pm14 cd14 ct14 : Value}
    (a14 : PySem.W.nsIn K mainGlobals "_law_tokens" = some (some (.ref f14))) (l14 : K.lookup f14 = some ⟨oc14, od14, .func (PySem.W.fnOf "_law_tokens" "_law_tokens" (defArgs s__law_tokens) (defBody s__law_tokens) (defScope s__law_tokens) .none kV14 dc14 pm14 an14 cd14 ct14), sl14⟩) (c14 : PySem.W.codeIn K cd14 "_law_tokens" = true) (k14 : PySem.W.keepIn K (.ref f14) = true)
    {f15 : Addr} {od15 an15 : Option Addr} {sl15 : Array (Option Value)} {oc15 kV15 dc15 pm15 cd15 ct15 : Value}
    (a15 : PySem.W.nsIn K mainGlobals "_law_run" = some (some (.ref f15))) (l15 : K.lookup f15 = some ⟨oc15, od15, .func (PySem.W.fnOf "_law_run" "_law_run" (defArgs s__law_run) (defBody s__law_run) (defScope s__law_run) .none kV15 dc15 pm15 an15 cd15 ct15), sl15⟩) (c15 : PySem.W.codeIn K cd15 "_law_run" = true) (k15 : PySem.W.keepIn K (.ref f15) = true)
    {f16 : Addr} {od16 an16 : Option Addr} {sl16 : Array (Option Value)} {oc16 kV16 dc16 pm16 cd16 ct16 : Value}
    (a16 : PySem.W.nsIn K mainGlobals "_law_digits" = some (some (.ref f16))) (l16 : K.lookup f16 = some ⟨oc16, od16, .func (PySem.W.fnOf "_law_digits" "_law_digits" (defArgs s__law_digits) (defBody s__law_digits) (defScope s__law_digits) .none kV16 dc16 pm16 an16 cd16 ct16), sl16⟩) (c16 : PySem.W.codeIn K cd16 "_law_digits" = true) (k16 : PySem.W.keepIn K (.ref f16) = true)
    {f17 : Addr} {od17 an17 : Option Addr} {sl17 : Array (Option Value)} {oc17 kV17 dc17 pm17 cd17 ct17 : Value}
    (a17 : PySem.W.nsIn K mainGlobals "_law_short" = some (some (.ref f17))) (l17 : K.lookup f17 = some ⟨oc17, od17, .func (PySem.W.fnOf "_law_short" "_law_short" (defArgs s__law_short) (defBody s__law_short) (defScope s__law_short) .none kV17 dc17 pm17 an17 cd17 ct17), sl17⟩) (c17 : PySem.W.codeIn K cd17 "_law_short" = true) (k17 : PySem.W.keepIn K (.ref f17) = true)
    {f18 : Addr} {od18 an18 : Option Addr} {sl18 : Array (Option Value)} {oc18 kV18 dc18 pm18 cd18 ct18 : Value}
    (a18 : PySem.W.nsIn K mainGlobals "_law_near" = some (some (.ref f18))) (l18 : K.lookup f18 = some ⟨oc18, od18, .func (PySem.W.fnOf "_law_near" "_law_near" (defArgs s__law_near) (defBody s__law_near) (defScope s__law_near) .none kV18 dc18 pm18 an18 cd18 ct18), sl18⟩) (c18 : PySem.W.codeIn K cd18 "_law_near" = true) (k18 : PySem.W.keepIn K (.ref f18) = true)
    {f19 : Addr} {od19 an19 : Option Addr} {sl19 : Array (Option Value)} {oc19 kV19 dc19 pm19 cd19 ct19 : Value}
    (a19 : PySem.W.nsIn K mainGlobals "_law_sign" = some (some (.ref f19))) (l19 : K.lookup f19 = some ⟨oc19, od19, .func (PySem.W.fnOf "_law_sign" "_law_sign" (defArgs s__law_sign) (defBody s__law_sign) (defScope s__law_sign) .none kV19 dc19 pm19 an19 cd19 ct19), sl19⟩) (c19 : PySem.W.codeIn K cd19 "_law_sign" = true) (k19 : PySem.W.keepIn K (.ref f19) = true)
    {f20 : Addr} {od20 an20 : Option Addr} {sl20 : Array (Option Value)} {oc20 kV20 dc20 pm20 cd20 ct20 : Value}
    (a20 : PySem.W.nsIn K mainGlobals "_law_any_sign" = some (some (.ref f20))) (l20 : K.lookup f20 = some ⟨oc20, od20, .func (PySem.W.fnOf "_law_any_sign" "_law_any_sign" (defArgs s__law_any_sign) (defBody s__law_any_sign) (defScope s__law_any_sign) .none kV20 dc20 pm20 an20 cd20 ct20), sl20⟩) (c20 : PySem.W.codeIn K cd20 "_law_any_sign" = true) (k20 : PySem.W.keepIn K (.ref f20) = true)
    {f21 : Addr} {od21 an21 : Option Addr} {sl21 : Array (Option Value)} {oc21 kV21 dc21 pm21 cd21 ct21 : Value}
    (a21 : PySem.W.nsIn K mainGlobals "_law_piece" = some (some (.ref f21))) (l21 : K.lookup f21 = some ⟨oc21, od21, .func (PySem.W.fnOf "_law_piece" "_law_piece" (defArgs s__law_piece) (defBody s__law_piece) (defScope s__law_piece) .none kV21 dc21 pm21 an21 cd21 ct21), sl21⟩) (c21 : PySem.W.codeIn K cd21 "_law_piece" = true) (k21 : PySem.W.keepIn K (.ref f21) = true)
    {f22 : Addr} {od22 an22 : Option Addr} {sl22 : Array (Option Value)} {oc22 kV22 dc22 pm22 cd22 ct22 : Value}
    (a22 : PySem.W.nsIn K mainGlobals "_law_line" = some (some (.ref f22))) (l22 : K.lookup f22 = some ⟨oc22, od22, .func (PySem.W.fnOf "_law_line" "_law_line" (defArgs s__law_line) (defBody s__law_line) (defScope s__law_line) .none kV22 dc22 pm22 an22 cd22 ct22), sl22⟩) (c22 : PySem.W.codeIn K cd22 "_law_line" = true) (k22 : PySem.W.keepIn K (.ref f22) = true)
    {f23 : Addr} {od23 an23 : Option Addr} {sl23 : Array (Option Value)} {oc23 kV23 dc23 pm23 cd23 ct23 : Value}
    (a23 : PySem.W.nsIn K mainGlobals "_law_sure_line" = some (some (.ref f23))) (l23 : K.lookup f23 = some ⟨oc23, od23, .func (PySem.W.fnOf "_law_sure_line" "_law_sure_line" (defArgs s__law_sure_line) (defBody s__law_sure_line) (defScope s__law_sure_line) .none kV23 dc23 pm23 an23 cd23 ct23), sl23⟩) (c23 : PySem.W.codeIn K cd23 "_law_sure_line" = true) (k23 : PySem.W.keepIn K (.ref f23) = true)
    {f24 : Addr} {od24 an24 : Option Addr} {sl24 : Array (Option Value)} {oc24 kV24 dc24 pm24 cd24 ct24 : Value}
    (a24 : PySem.W.nsIn K mainGlobals "_law_words" = some (some (.ref f24))) (l24 : K.lookup f24 = some ⟨oc24, od24, .func (PySem.W.fnOf "_law_words" "_law_words" (defArgs s__law_words) (defBody s__law_words) (defScope s__law_words) .none kV24 dc24 pm24 an24 cd24 ct24), sl24⟩) (c24 : PySem.W.codeIn K cd24 "_law_words" = true) (k24 : PySem.W.keepIn K (.ref f24) = true)
    {f25 : Addr} {od25 an25 : Option Addr} {sl25 : Array (Option Value)} {oc25 kV25 dc25 pm25 cd25 ct25 : Value}
    (a25 : PySem.W.nsIn K mainGlobals "law" = some (some (.ref f25))) (l25 : K.lookup f25 = some ⟨oc25, od25, .func (PySem.W.fnOf "law" "law" (defArgs s_law) (defBody s_law) (defScope s_law) .none kV25 dc25 pm25 an25 cd25 ct25), sl25⟩) (c25 : PySem.W.codeIn K cd25 "law" = true) (k25 : PySem.W.keepIn K (.ref f25) = true)
    (z0 : PySem.W.nsIn K mainGlobals "abs" = some none)
    (z1 : PySem.W.nsIn K mainGlobals "bool" = some none)
    (z2 : PySem.W.nsIn K mainGlobals "int" = some none)
    (z3 : PySem.W.nsIn K mainGlobals "isinstance" = some none)
    (z4 : PySem.W.nsIn K mainGlobals "len" = some none)
    (z5 : PySem.W.nsIn K mainGlobals "list" = some none)
    (z6 : PySem.W.nsIn K mainGlobals "range" = some none)
    (z7 : PySem.W.nsIn K mainGlobals "str" = some none)
    (z8 : PySem.W.nsIn K mainGlobals "tuple" = some none)
    {tLETTERS : Tok} (gaLETTERS : PySem.W.nsIn K mainGlobals "LETTERS" = some (some (.str "abcdefghijklmnopqrstuvwxyz" tLETTERS)))
    {tDIGITS : Tok} (gaDIGITS : PySem.W.nsIn K mainGlobals "DIGITS" = some (some (.str "0123456789" tDIGITS)))
    {tCAPITALS : Tok} (gaCAPITALS : PySem.W.nsIn K mainGlobals "CAPITALS" = some (some (.str "ABCDEFGHIJKLMNOPQRSTUVWXYZ" tCAPITALS)))
    {rRESERVED : Addr} {oRESERVED : Option Addr} {iRESERVED : Array Value} {nRESERVED : Nat} {slRESERVED : Array (Option Value)} (gaRESERVED : PySem.W.nsIn K mainGlobals "RESERVED" = some (some (.ref rRESERVED))) (glRESERVED : K.lookup rRESERVED = some ⟨.type "tuple", oRESERVED, .seq iRESERVED nRESERVED, slRESERVED⟩) (gbRESERVED : (strsB iRESERVED.toList RES && Nat.ble iRESERVED.size 100) = true)
    {rDOUBLE_SIGNS : Addr} {oDOUBLE_SIGNS : Option Addr} {iDOUBLE_SIGNS : Array Value} {nDOUBLE_SIGNS : Nat} {slDOUBLE_SIGNS : Array (Option Value)} (gaDOUBLE_SIGNS : PySem.W.nsIn K mainGlobals "DOUBLE_SIGNS" = some (some (.ref rDOUBLE_SIGNS))) (glDOUBLE_SIGNS : K.lookup rDOUBLE_SIGNS = some ⟨.type "tuple", oDOUBLE_SIGNS, .seq iDOUBLE_SIGNS nDOUBLE_SIGNS, slDOUBLE_SIGNS⟩) (gbDOUBLE_SIGNS : (strsB iDOUBLE_SIGNS.toList DBL && Nat.ble iDOUBLE_SIGNS.size 100) = true)
    : ∃ fd : FuncData, (∀ (s : Shared) (v : Value), BindsTo s fd ⟨[v], []⟩ [("script", v)]) ∧ ∀ base : Heap, K.In base → base.Ns mainGlobals mg → FnOk l.prog w K mg base CX0 7 fa fd ["script"] (spLaw K) := by
  have T : Top K mg := {
    b_abs := PySem.W.mg_none_of X G z0
    b_bool := PySem.W.mg_none_of X G z1
    b_int := PySem.W.mg_none_of X G z2
    b_isinstance := PySem.W.mg_none_of X G z3
    b_len := PySem.W.mg_none_of X G z4
    b_list := PySem.W.mg_none_of X G z5
    b_range := PySem.W.mg_none_of X G z6
    b_str := PySem.W.mg_none_of X G z7
    b_tuple := PySem.W.mg_none_of X G z8
    d_is_name := df_mk X G a0 l0 c0 k0 (fun _ _ _ _ _ _ us hl => match us, hl with | [_], _ => rfl)
    d_is_run_sign := df_mk X G a1 l1 c1 k1 (fun _ _ _ _ _ _ us hl => match us, hl with | [_], _ => rfl)
    d_end_of_run := df_mk X G a2 l2 c2 k2 (fun _ _ _ _ _ _ us hl => match us, hl with | [_, _], _ => rfl)
    d_tokens_of := df_mk X G a3 l3 c3 k3 (fun _ _ _ _ _ _ us hl => match us, hl with | [_], _ => rfl)
    d_is_number := df_mk X G a4 l4 c4 k4 (fun _ _ _ _ _ _ us hl => match us, hl with | [_], _ => rfl)
    d__law_begin := df_mk X G a5 l5 c5 k5 (fun _ _ _ _ _ _ us hl => match us, hl with | [_], _ => rfl)
    d__law_draw := df_mk X G a6 l6 c6 k6 (fun _ _ _ _ _ _ us hl => match us, hl with | [_, _], _ => rfl)
    d__law_pick := df_mk X G a7 l7 c7 k7 (fun _ _ _ _ _ _ us hl => match us, hl with | [_, _], _ => rfl)
    d__law_shuffled := df_mk X G a8 l8 c8 k8 (fun _ _ _ _ _ _ us hl => match us, hl with | [_, _], _ => rfl)
    d__law_is_int := df_mk X G a9 l9 c9 k9 (fun _ _ _ _ _ _ us hl => match us, hl with | [_], _ => rfl)
    d__law_same := df_mk X G a10 l10 c10 k10 (fun _ _ _ _ _ _ us hl => match us, hl with | [_, _], _ => rfl)
    d__law_reserved := df_mk X G a11 l11 c11 k11 (fun _ _ _ _ _ _ us hl => match us, hl with | [], _ => rfl)
    d__law_is_name := df_mk X G a12 l12 c12 k12 (fun _ _ _ _ _ _ us hl => match us, hl with | [_], _ => rfl)
    d__law_is_number := df_mk X G a13 l13 c13 k13 (fun _ _ _ _ _ _ us hl => match us, hl with | [_], _ => rfl)
    d__law_tokens := df_mk X G a14 l14 c14 k14 (fun _ _ _ _ _ _ us hl => match us, hl with | [_], _ => rfl)
    d__law_run := df_mk X G a15 l15 c15 k15 (fun _ _ _ _ _ _ us hl => match us, hl with | [_, _, _], _ => rfl)
    d__law_digits := df_mk X G a16 l16 c16 k16 (fun _ _ _ _ _ _ us hl => match us, hl with | [_], _ => rfl)
    d__law_short := df_mk X G a17 l17 c17 k17 (fun _ _ _ _ _ _ us hl => match us, hl with | [_, _], _ => rfl)
    d__law_near := df_mk X G a18 l18 c18 k18 (fun _ _ _ _ _ _ us hl => match us, hl with | [_, _], _ => rfl)
    d__law_sign := df_mk X G a19 l19 c19 k19 (fun _ _ _ _ _ _ us hl => match us, hl with | [_], _ => rfl)
    d__law_any_sign := df_mk X G a20 l20 c20 k20 (fun _ _ _ _ _ _ us hl => match us, hl with | [_], _ => rfl)
    d__law_piece := df_mk X G a21 l21 c21 k21 (fun _ _ _ _ _ _ us hl => match us, hl with | [_], _ => rfl)
    d__law_line := df_mk X G a22 l22 c22 k22 (fun _ _ _ _ _ _ us hl => match us, hl with | [_, _], _ => rfl)
    d__law_sure_line := df_mk X G a23 l23 c23 k23 (fun _ _ _ _ _ _ us hl => match us, hl with | [_], _ => rfl)
    d__law_words := df_mk X G a24 l24 c24 k24 (fun _ _ _ _ _ _ us hl => match us, hl with | [_], _ => rfl)
    d_law := df_mk X G a25 l25 c25 k25 (fun _ _ _ _ _ _ us hl => match us, hl with | [_], _ => rfl)
    g_LETTERS := ⟨_, PySem.W.mg_of X G gaLETTERS, ⟨_, rfl⟩⟩
    g_DIGITS := ⟨_, PySem.W.mg_of X G gaDIGITS, ⟨_, rfl⟩⟩
    g_CAPITALS := ⟨_, PySem.W.mg_of X G gaCAPITALS, ⟨_, rfl⟩⟩
    g_RESERVED := topT (PySem.W.mg_of X G gaRESERVED) glRESERVED gbRESERVED
    g_DOUBLE_SIGNS := topT (PySem.W.mg_of X G gaDOUBLE_SIGNS) glDOUBLE_SIGNS gbDOUBLE_SIGNS
  }
  have e := hfa.symm.trans (PySem.W.mg_of X G a25)
  cases e
  refine ⟨PySem.W.fnOf "law" "law" (defArgs s_law) (defBody s_law) (defScope s_law) .none kV25 dc25 pm25 an25 cd25 ct25, fun s v => .of_eq rfl, fun base _ _ => ?_⟩
  exact ok_law T (fun_mk (st := s_law) l25 c25 k25)
theorem walk {l : PySem.W.OpenLaw} {q : Program} {loose : List Str} {XP : (Str → Option Value) → Heap → Prop} {YP : World → Heap → Prop} {d : DefRec} {K : Params → PySem.W.Frag} (hn : l.most = some 63) (hdf : d.params.defaults = [])
    (hY : ∀ (w : World) (h : Heap), YP w h → (K w.params).In h)
    (F : ∀ (w : World) (mg : Str → Option Value) (fa : Addr) (h : Heap), (K w.params).In h → h.Ns mainGlobals mg → mg d.name = some (.ref fa) →
      ∃ fd : FuncData, (∀ (s : Shared) (u : Value), BindsTo s fd ⟨[u], []⟩ [("script", u)]) ∧ ∀ base : Heap, (K w.params).In base → base.Ns mainGlobals mg → FnOk l.prog w (K w.params) mg base CX0 7 fa fd ["script"] (spLaw (K w.params))) :
    PySem.W.WalkO q loose XP YP l.row.toRowW d [] (fun f vs => PySem.call f vs) :=
  L2.walk_of (n := 63) (k := 7) (x := "script") (CX := fun _ => CX0) (sp := fun w => spLaw (K w.params)) hn (by decide) hdf ⟨rfl, by decide, by decide⟩ hY F (fun _ _ a ns hl _ hS => ⟨a, ns, rfl, hS, hl, fun _ => rfl⟩) fun _ _ _ _ _ z => z
end Lw

open PySem PySem.W PyProof.Rows in
set_option maxRecDepth 100000 in
set_option maxHeartbeats 0 in
theorem PySem.Challenge.cw_extrasmeet_k01_tokens_and_names_holds : PySem.Challenge.rw_extrasmeet_k01_tokens_and_names.Holds := by
  w_on; o_law; k_head; (case hw => w_witness2)
  k_fill
  refine Lw.walk (l := PySem.Challenge.rw_extrasmeet_k01_tokens_and_names) rfl rfl (fun w h Y => PySem.W.kIn_of Y) ?F
  case F =>
    intro w mg fa h KX G hmg
    refine' Lw.all_mk KX G hmg ?a0 ?l0 ?c0 ?k0 ?a1 ?l1 ?c1 ?k1 ?a2 ?l2 ?c2 ?k2 ?a3 ?l3 ?c3 ?k3 ?a4 ?l4 ?c4 ?k4 ?a5 ?l5 ?c5 ?k5 ?a6 ?l6 ?c6 ?k6 ?a7 ?l7 ?c7 ?k7 ?a8 ?l8 ?c8 ?k8 ?a9 ?l9 ?c9 ?k9 ?a10 ?l10 ?c10 ?k10 ?a11 ?l11 ?c11 ?k11 ?a12 ?l12 ?c12 ?k12 ?a13 ?l13 ?c13 ?k13 ?a14 ?l14 ?c14 ?k14 ?a15 ?l15 ?c15 ?k15 ?a16 ?l16 ?c16 ?k16 ?a17 ?l17 ?c17 ?k17 ?a18 ?l18 ?c18 ?k18 ?a19 ?l19 ?c19 ?k19 ?a20 ?l20 ?c20 ?k20 ?a21 ?l21 ?c21 ?k21 ?a22 ?l22 ?c22 ?k22 ?a23 ?l23 ?c23 ?k23 ?a24 ?l24 ?c24 ?k24 ?a25 ?l25 ?c25 ?k25 ?z0 ?z1 ?z2 ?z3 ?z4 ?z5 ?z6 ?z7 ?z8 ?gaLETTERS ?gaDIGITS ?gaCAPITALS ?gaRESERVED ?glRESERVED ?gbRESERVED ?gaDOUBLE_SIGNS ?glDOUBLE_SIGNS ?gbDOUBLE_SIGNS
    (case a0 => k_is)
    (case l0 => k_is)
    (case c0 => k_is)
    (case k0 => k_is)
    (case a1 => k_is)
    (case l1 => k_is)
    (case c1 => k_is)
    (case k1 => k_is)
    (case a2 => k_is)
    (case l2 => k_is)
    (case c2 => k_is)
    (case k2 => k_is)
    (case a3 => k_is)
    (case l3 => k_is)
    (case c3 => k_is)
    (case k3 => k_is)
    (case a4 => k_is)
    (case l4 => k_is)
    (case c4 => k_is)
    (case k4 => k_is)
    (case a5 => k_is)
    (case l5 => k_is)
    (case c5 => k_is)
    (case k5 => k_is)
    (case a6 => k_is)
    (case l6 => k_is)
    (case c6 => k_is)
    (case k6 => k_is)
    (case a7 => k_is)
    (case l7 => k_is)
    (case c7 => k_is)
    (case k7 => k_is)
    (case a8 => k_is)
    (case l8 => k_is)
    (case c8 => k_is)
    (case k8 => k_is)
    (case a9 => k_is)
    (case l9 => k_is)
    (case c9 => k_is)
    (case k9 => k_is)
    (case a10 => k_is)
    (case l10 => k_is)
    (case c10 => k_is)
    (case k10 => k_is)
    (case a11 => k_is)
    (case l11 => k_is)
    (case c11 => k_is)
    (case k11 => k_is)
    (case a12 => k_is)
    (case l12 => k_is)
    (case c12 => k_is)
    (case k12 => k_is)
    (case a13 => k_is)
    (case l13 => k_is)
    (case c13 => k_is)
    (case k13 => k_is)
    (case a14 => k_is)
    (case l14 => k_is)
    (case c14 => k_is)
    (case k14 => k_is)
    (case a15 => k_is)
    (case l15 => k_is)
    (case c15 => k_is)
    (case k15 => k_is)
    (case a16 => k_is)
    (case l16 => k_is)
    (case c16 => k_is)
    (case k16 => k_is)
    (case a17 => k_is)
    (case l17 => k_is)
    (case c17 => k_is)
    (case k17 => k_is)
    (case a18 => k_is)
    (case l18 => k_is)
    (case c18 => k_is)
    (case k18 => k_is)
    (case a19 => k_is)
    (case l19 => k_is)
    (case c19 => k_is)
    (case k19 => k_is)
    (case a20 => k_is)
    (case l20 => k_is)
    (case c20 => k_is)
    (case k20 => k_is)
    (case a21 => k_is)
    (case l21 => k_is)
    (case c21 => k_is)
    (case k21 => k_is)
    (case a22 => k_is)
    (case l22 => k_is)
    (case c22 => k_is)
    (case k22 => k_is)
    (case a23 => k_is)
    (case l23 => k_is)
    (case c23 => k_is)
    (case k23 => k_is)
    (case a24 => k_is)
    (case l24 => k_is)
    (case c24 => k_is)
    (case k24 => k_is)
    (case a25 => k_is)
    (case l25 => k_is)
    (case c25 => k_is)
    (case k25 => k_is)
    (case z0 => k_is)
    (case z1 => k_is)
    (case z2 => k_is)
    (case z3 => k_is)
    (case z4 => k_is)
    (case z5 => k_is)
    (case z6 => k_is)
    (case z7 => k_is)
    (case z8 => k_is)
    (case gaLETTERS => k_is)
    (case gaDIGITS => k_is)
    (case gaCAPITALS => k_is)
    (case gaRESERVED => k_is)
    (case glRESERVED => k_is)
    (case gaDOUBLE_SIGNS => k_is)
    (case glDOUBLE_SIGNS => k_is)
    (case gbRESERVED => first | decide +kernel | kernel_rfl)
    (case gbDOUBLE_SIGNS => first | decide +kernel | kernel_rfl)
