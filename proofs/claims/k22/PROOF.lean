import PyProof.Rows.All
import Wide.All
import OpenK.AllK
import Wide.FinOn
import HandS.ForMost
import HandS.IsInst
import HandS.Style
import HandS.TupAny
import HandS.Conv
import HandS.Exc
import HandS.ExcOwn
import HandS.TryOnly
import HandS.WordsExc
import HandS.Flow
import HandS.Lambda
import HandS.ExcCtx
import HandS.Walk
import HandS.SortInts
import HandS.Hot
import HandS.HotCalls
import HandS.ExcIs
import HandS.TupMul
import HandS.RaiseMore
import HandS.SetFor
import HandS.Strs
import HandS.Sort
import HandS.SortOrd
import HandS.SortRule
import HandS.Zip
import HandS.Deep
import KE.DataFind
import KE.DataMinMax
import KE.SortData
import HandS.EndTab
import KE.KNestM
import HandS.Star
import HandS.Property
import HandS.ClsMeth
import HandS.MakeKwOnly
import HandS.MakeKw
import HandS.Defaults
import PySem.Challenge.RW_tilecuts_k22_whole_worked_examples
set_option Elab.async false
set_option linter.all false
set_option maxRecDepth 100000
set_option maxHeartbeats 4000000
/-! Tl: a layer of pure data over the hand layer: what a def's names hold is data, lists of one's own, or a bag of draws. -/
namespace Tl
open PySem PySem.Spec PyProof.Rows L2
abbrev D := PyData
theorem takesNo {X : Cx} : L2N.Takes X (fun _ _ _ _ => False) := fun _ _ ⟨_, _, _, _, _, _, _, _, _, _, _, _, _, _, _, _, z⟩ => z.elim
theorem passNo {X : Cx} : Passes (L2N.CX X.prog X.w) X (fun _ _ _ => False) := fun _ _ _ _ _ _ _ ⟨_, _, _, _, _, _, _, _, _, _, _, _, z⟩ => z.elim
/-- a def's promise from its body -/
theorem okN {P : Program} {w : World} {K : PySem.W.Frag} {mg : Str → Option Value} {base : Heap} {x qual : Str} {st : Stmt} {f : Addr} {fd : FuncData} {N ps : List Str} {k : Nat} {sp : Sp} (F : Fun K x qual st f fd) (S : FnScope N ps (defScope st)) (len : ∀ vs H Q E, sp vs H Q E → vs.length = ps.length)
    (hbody : ∀ (cdv : Value) (A : Around) (outer : List Env) (s : Shared) (H : Hp) (vs : List V) (Q : VK) (E : XK), Room k (A.deeper (envOfC qual (defScope st) s.heap.objs.size f cdv)) → sp vs H Q E →
      ∃ t, PSs (cxOf (L2N.CX P w) P w K mg base N qual (defScope st) f cdv A outer s H E) (defBody st) t ∧ t { nx := fun _ H' => Q .non H', rt := Q } (start N vs) H) : FnOk P w K mg base (L2N.CX P w) (k + 1) f fd ps sp := by
  obtain ⟨oc, od, kV, doc, pm, an, cdv, ct, osl, e, lk, hcd⟩ := F.ex
  subst e
  exact fn_of lk hcd S len fun A outer s H vs Q E hr hsp => hbody cdv A outer s H vs Q E hr hsp

/-! ### the weakest readings -/
section
variable {X : Cx} {e : Expr} {es : List Expr} {st : Stmt} {sts : List Stmt} {σ : L2.St} {H : Hp}
def WE (X : Cx) (e : Expr) : TE := fun σ H Q => ∀ (pins : List (Addr × Obj)) (s : Shared), Inv X pins σ H s → wpAny (model X.prog X.w) X.A (eval e X.env) (EP X pins σ Q) X.xe s
def WT (X : Cx) (e : Expr) : TT := fun σ H Q => ∀ (pins : List (Addr × Obj)) (s : Shared), Inv X pins σ H s → wpAny (model X.prog X.w) X.A (isTrue e X.env (eval e X.env)) (TP X pins σ Q) X.xe s
def WW (X : Cx) (e : Expr) : TT := fun σ H Q => ∀ (wh : Sem Value) (pins : List (Addr × Obj)) (s : Shared), Inv X pins σ H s → wpAny (model X.prog X.w) X.A (isTrue e X.env wh) (TP X pins σ Q) X.xe s
def WA (X : Cx) (es : List Expr) : TA := fun σ H Q => ∀ (pos : Pos) (pins : List (Addr × Obj)) (s : Shared), Inv X pins σ H s → wpAny (model X.prog X.w) X.A (spliced (backTo pos (starEach es X.env))) (AP X pins σ Q) X.xe s
def WS (X : Cx) (st : Stmt) : TS := fun D σ H => ∀ (pins : List (Addr × Obj)) (s : Shared), Inv X pins σ H s → wpAny (model X.prog X.w) X.A (exec st X.env) (SP X pins D) X.xe s
def WSs (X : Cx) (sts : List Stmt) : TS := fun D σ H => ∀ (pins : List (Addr × Obj)) (s : Shared), Inv X pins σ H s → wpAny (model X.prog X.w) X.A (execs sts X.env) (SP X pins D) X.xe s
theorem pe_self : PE X e (WE X e) := ⟨fun pins s _ _ _ I h => h pins s I⟩
theorem pt_self : PT X e (WT X e) := ⟨fun pins s _ _ _ I h => h pins s I⟩
theorem pw_self : PW X e (WW X e) := ⟨fun wh pins s _ _ _ I h => h wh pins s I⟩
theorem pa_self : PA X es (WA X es) := ⟨fun pos pins s _ _ _ I h => h pos pins s I⟩
theorem ps_self : PS X st (WS X st) := ⟨fun pins s _ _ _ I h => h pins s I⟩
theorem pss_self : PSs X sts (WSs X sts) := ⟨fun pins s _ _ _ I h => h pins s I⟩
theorem we_of {t : TE} {Q : VK} (h : PE X e t) (q : t σ H Q) : WE X e σ H Q := fun pins s I => h.run pins s σ H Q I q
theorem wt_of {t : TT} {Q : Bool → Hp → Prop} (h : PT X e t) (q : t σ H Q) : WT X e σ H Q := fun pins s I => h.run pins s σ H Q I q
theorem ww_of {t : TT} {Q : Bool → Hp → Prop} (h : PW X e t) (q : t σ H Q) : WW X e σ H Q := fun wh pins s I => h.run wh pins s σ H Q I q
theorem wa_of {t : TA} {Q : List V → Hp → Prop} (h : PA X es t) (q : t σ H Q) : WA X es σ H Q := fun pos pins s I => h.run pos pins s σ H Q I q
theorem ws_of {t : TS} {E : Ends} (h : PS X st t) (q : t E σ H) : WS X st E σ H := fun pins s I => h.run pins s σ H E I q
theorem wss_of {t : TS} {E : Ends} (h : PSs X sts t) (q : t E σ H) : WSs X sts E σ H := fun pins s I => h.run pins s σ H E I q
theorem we_mono {Q Q' : VK} (h : WE X e σ H Q) (q : ∀ v H', Q v H' → Q' v H') : WE X e σ H Q' := fun pins s I => thn (h pins s I) fun _ _ ⟨v, H', J, r, z⟩ => ⟨v, H', J, r, q v H' z⟩
theorem wt_mono {Q Q' : Bool → Hp → Prop} (h : WT X e σ H Q) (q : ∀ v H', Q v H' → Q' v H') : WT X e σ H Q' := fun pins s I => thn (h pins s I) fun v _ ⟨H', J, z⟩ => ⟨H', J, q v H' z⟩
theorem ww_mono {Q Q' : Bool → Hp → Prop} (h : WW X e σ H Q) (q : ∀ v H', Q v H' → Q' v H') : WW X e σ H Q' := fun wh pins s I => thn (h wh pins s I) fun v _ ⟨H', J, z⟩ => ⟨H', J, q v H' z⟩
theorem wa_mono {Q Q' : List V → Hp → Prop} (h : WA X es σ H Q) (q : ∀ v H', Q v H' → Q' v H') : WA X es σ H Q' := fun pos pins s I => thn (h pos pins s I) fun _ _ ⟨v, H', J, r, z⟩ => ⟨v, H', J, r, q v H' z⟩
structure EndsLe (E E' : Ends) : Prop where
  nx : ∀ σ H, E.nx σ H → E'.nx σ H
  rt : ∀ v H, E.rt v H → E'.rt v H
  bk : ∀ σ H, E.bk σ H → E'.bk σ H
  ct : ∀ σ H, E.ct σ H → E'.ct σ H
theorem sp_mono {pins : List (Addr × Obj)} {E E' : Ends} {f : Flow} {s : Shared} (l : EndsLe E E') (h : SP X pins E f s) : SP X pins E' f s := by
  cases f with
  | next => obtain ⟨σ', H', I, q⟩ := h; exact ⟨σ', H', I, l.nx _ _ q⟩
  | brk => obtain ⟨σ', H', I, q⟩ := h; exact ⟨σ', H', I, l.bk _ _ q⟩
  | cont => obtain ⟨σ', H', I, q⟩ := h; exact ⟨σ', H', I, l.ct _ _ q⟩
  | ret u => obtain ⟨v, σ', H', I, r, q⟩ := h; exact ⟨v, σ', H', I, r, l.rt _ _ q⟩
theorem ws_mono {E E' : Ends} (h : WS X st E σ H) (l : EndsLe E E') : WS X st E' σ H := fun pins s I => thn (h pins s I) fun _ _ q => sp_mono l q
theorem wss_mono {E E' : Ends} (h : WSs X sts E σ H) (l : EndsLe E E') : WSs X sts E' σ H := fun pins s I => thn (h pins s I) fun _ _ q => sp_mono l q
end

/-! ### data in the heap -/
mutual
inductive Td (H : Hp) : V → D → Prop
  | non : Td H .non .none
  | bl (b : Bool) : Td H (.bl b) (.bool b)
  | int (i : Int) : Td H (.int i) (.int i)
  | str (x : Str) : Td H (.str x) (.str x)
  | lst {a : Addr} {xs : List V} {ds : List D} : H a = some (.lst xs) → xs.length ≤ sizeLine → Tds H xs ds → Td H (.ref a) (.list ds)
  | tup {a : Addr} {xs : List V} {ds : List D} : H a = some (.tup xs) → xs.length ≤ sizeLine → Tds H xs ds → Td H (.ref a) (.tuple ds)
inductive Tds (H : Hp) : List V → List D → Prop
  | nil : Tds H [] []
  | cons {v : V} {vs : List V} {d : D} {ds : List D} : Td H v d → Tds H vs ds → Tds H (v :: vs) (d :: ds)
end
section
variable {H H' : Hp}
mutual
theorem Td.mono (h : ∀ a o, H a = some o → H' a = some o) : ∀ {v : V} {d : D}, Td H v d → Td H' v d
  | _, _, .non => .non
  | _, _, .bl b => .bl b
  | _, _, .int i => .int i
  | _, _, .str x => .str x
  | _, _, .lst e z t => .lst (h _ _ e) z (Tds.mono h t)
  | _, _, .tup e z t => .tup (h _ _ e) z (Tds.mono h t)
theorem Tds.mono (h : ∀ a o, H a = some o → H' a = some o) : ∀ {vs : List V} {ds : List D}, Tds H vs ds → Tds H' vs ds
  | _, _, .nil => .nil
  | _, _, .cons t r => .cons (Td.mono h t) (Tds.mono h r)
end
mutual
theorem Td.dp {K : PySem.W.Frag} : ∀ {v : V} {d : D}, Td H v d → Dp K H v d
  | _, _, .non => .non
  | _, _, .bl b => .bl b
  | _, _, .int i => .int i
  | _, _, .str x => .str x
  | _, _, .lst e _ t => .lst (.of e) (Tds.dp t)
  | _, _, .tup e _ t => .tup (.of e) (Tds.dp t)
theorem Tds.dp {K : PySem.W.Frag} : ∀ {vs : List V} {ds : List D}, Tds H vs ds → DpAll K H vs ds
  | _, _, .nil => .nil
  | _, _, .cons t r => .cons (Td.dp t) (Tds.dp r)
end
theorem Tds.length : ∀ {vs : List V} {ds : List D}, Tds H vs ds → vs.length = ds.length
  | _, _, .nil => rfl
  | _, _, .cons _ r => by rw [List.length_cons, List.length_cons, Tds.length r]
theorem Tds.app : ∀ {vs us : List V} {ds es : List D}, Tds H vs ds → Tds H us es → Tds H (vs ++ us) (ds ++ es)
  | _, _, _, _, .nil, h => h
  | _, _, _, _, .cons t r, h => .cons t (Tds.app r h)
theorem Tds.get : ∀ {vs : List V} {ds : List D} {i : Nat} {v : V}, Tds H vs ds → vs[i]? = some v → ∃ d, ds[i]? = some d ∧ Td H v d
  | _, _, _, _, .nil, e => by simp at e
  | _, _, 0, _, .cons t r, e => by simp at e; subst e; exact ⟨_, rfl, t⟩
  | _, _, i + 1, v, .cons t r, e => by
    obtain ⟨d, h1, h2⟩ := Tds.get (i := i) (v := v) r (by simpa using e)
    exact ⟨d, by simpa using h1, h2⟩
theorem Tds.get' : ∀ {vs : List V} {ds : List D} {i : Nat} {d : D}, Tds H vs ds → ds[i]? = some d → ∃ v, vs[i]? = some v ∧ Td H v d
  | _, _, _, _, .nil, e => by simp at e
  | _, _, 0, _, .cons t r, e => by simp at e; subst e; exact ⟨_, rfl, t⟩
  | _, _, i + 1, d, .cons t r, e => by
    obtain ⟨v, h1, h2⟩ := Tds.get' (i := i) (d := d) r (by simpa using e)
    exact ⟨v, by simpa using h1, h2⟩
theorem Tds.take : ∀ {vs : List V} {ds : List D} (n : Nat), Tds H vs ds → Tds H (vs.take n) (ds.take n)
  | _, _, 0, _ => .nil
  | _, _, _ + 1, .nil => .nil
  | _, _, n + 1, .cons t r => .cons t (Tds.take n r)
theorem Tds.drop : ∀ {vs : List V} {ds : List D} (n : Nat), Tds H vs ds → Tds H (vs.drop n) (ds.drop n)
  | _, _, 0, h => h
  | _, _, _ + 1, .nil => .nil
  | _, _, n + 1, .cons t r => Tds.drop n r
theorem Tds.rev {vs : List V} {ds : List D} (h : Tds H vs ds) : Tds H vs.reverse ds.reverse := by
  have : ∀ {us ws : List V} {es fs : List D}, Tds H us es → Tds H ws fs → Tds H (us.reverseAux ws) (es.reverseAux fs) := by
    intro us
    induction us with
    | nil => intro ws es fs h1 h2; cases h1; exact h2
    | cons u us ih =>
      intro ws es fs h1 h2
      cases h1 with
      | cons t r =>
        simp only [List.reverseAux]
        exact ih r (.cons t h2)
  exact this h .nil
theorem Tds.set {v : V} {d : D} : ∀ {vs : List V} {ds : List D} (i : Nat), Tds H vs ds → Td H v d → Tds H (vs.set i v) (ds.set i d)
  | _, _, _, .nil, _ => .nil
  | _, _, 0, .cons _ r, h => .cons h r
  | _, _, i + 1, .cons t r, h => .cons t (Tds.set i r h)
theorem Tds.ints {ns : List Int} : ∀ {vs : List V}, Tds H vs (ns.map .int) → vs = ns.map V.int := by
  induction ns with
  | nil => intro vs h; cases h; rfl
  | cons n r ih =>
    intro vs h
    cases h with
    | cons t q => cases t; rw [ih q]; rfl
theorem Tds.of_ints : ∀ (ns : List Int), Tds H (ns.map V.int) (ns.map .int)
  | [] => .nil
  | n :: r => .cons (.int n) (Tds.of_ints r)
theorem Tds.bools {ns : List Bool} : ∀ {vs : List V}, Tds H vs (ns.map .bool) → vs = ns.map V.bl := by
  induction ns with
  | nil => intro vs h; cases h; rfl
  | cons n r ih =>
    intro vs h
    cases h with
    | cons t q => cases t; rw [ih q]; rfl
end

/-! ### masks -/
def mask (M : List Addr) (H : Hp) : Hp := fun a => if a ∈ M then none else H a
theorem mask_of {M : List Addr} {H : Hp} {a : Addr} {o : HO} (h : a ∉ M) (e : H a = some o) : mask M H a = some o := by
  unfold mask; rw [if_neg h]; exact e
theorem of_mask {M : List Addr} {H : Hp} {a : Addr} {o : HO} (e : mask M H a = some o) : a ∉ M ∧ H a = some o := by
  unfold mask at e
  split at e
  · cases e
  · exact ⟨by assumption, e⟩
/-- what is kept: all but B -/
def Kp (B : List Addr) (H H' : Hp) : Prop := ∀ a o, a ∉ B → H a = some o → H' a = some o
theorem Kp.refl {B : List Addr} (H : Hp) : Kp B H H := fun _ _ _ h => h
theorem Kp.trans {B : List Addr} {H H1 H2 : Hp} (a : Kp B H H1) (b : Kp B H1 H2) : Kp B H H2 := fun x o n h => b x o n (a x o n h)
theorem Kp.of_same {B : List Addr} {H H' : Hp} (h : Same H H') : Kp B H H' := fun a o _ e => h a o e
theorem Kp.mono {B B' : List Addr} {H H' : Hp} (h : Kp B H H') (s : ∀ a ∈ B, a ∈ B') : Kp B' H H' := fun a o n e => h a o (fun z => n (s a z)) e
theorem same_mask {M : List Addr} {H H' : Hp} (h : Same H H') : ∀ a o, mask M H a = some o → mask M H' a = some o := fun a o e =>
  let ⟨n, e⟩ := of_mask e; mask_of n (h a o e)
theorem kp_mask {B M : List Addr} {H H' : Hp} (h : Kp B H H') (s : ∀ a ∈ B, a ∈ M) : ∀ a o, mask M H a = some o → mask M H' a = some o := fun a o e =>
  let ⟨n, e⟩ := of_mask e; mask_of n (h a o (fun z => n (s a z)) e)
theorem mask_sub {M M' : List Addr} {H : Hp} (s : ∀ a ∈ M', a ∈ M) : ∀ a o, mask M H a = some o → mask M' H a = some o := fun a o e =>
  let ⟨n, e⟩ := of_mask e; mask_of (fun z => n (s a z)) e
theorem mask_le {M : List Addr} {H : Hp} : ∀ a o, mask M H a = some o → H a = some o := fun a o e => (of_mask e).2
theorem same_upd {H : Hp} {p : Addr} {o : HO} (h : H p = none) : Same H (upd H p o) := fun b x e => by
  rw [upd_ne (ne_of_none e h)]
  exact e

/-! ### a bag: [draws, a counter] -/
def Bag (M : List Addr) (H : Hp) (b : Addr) : Prop := ∃ (dr : Addr) (n : Int) (ns : List Int), H b = some (.lst [.ref dr, .int n]) ∧ mask M H dr = some (.lst (ns.map V.int)) ∧ (ns ≠ [] ∧ ns.length ≤ 1000)
theorem Bag.kp {M M' : List Addr} {H H' : Hp} {b : Addr} (x : Bag M H b) (e : H' b = H b) (k : ∀ a o, mask M H a = some o → mask M' H' a = some o) : Bag M' H' b := by
  obtain ⟨dr, n, ns, h1, h2, h3⟩ := x
  exact ⟨dr, n, ns, e.trans h1, k _ _ h2, h3⟩
/-- a table of code objects, of the lambdas that the def of this name makes -/
def lamQ : Nat → Str
  | 3 => ("_law_build.<locals>.<lambda>" : Str)
  | _ => ("law.<locals>.<lambda>" : Str)
def Tabl (M : List Addr) (H : Hp) (P : Addr) (q : Str) : Prop := ∃ ps : Array Value, H P = some (.tbl ps) ∧ TriplesOk ps.toList ∧ ∀ (pos : Pos) (cv : Value), codeAmong pos ps.toList = some cv → ∃ c, cv = .ref c ∧ mask M H c = some (LamX.CodeO c q)
/-- what changes: bags, which stand once in the list, and tables, which stand more than once -/
def BagK (n : Nat) (M : List Addr) (H : Hp) (b : Addr) : Prop := (n ≤ 1 ∧ Bag M H b) ∨ (2 ≤ n ∧ Tabl M H b (lamQ n))
theorem BagK.kp {n : Nat} {M M' : List Addr} {H H' : Hp} {b : Addr} (x : BagK n M H b) (e : H' b = H b) (k : ∀ a o, mask M H a = some o → mask M' H' a = some o) : BagK n M' H' b := by
  rcases x with ⟨h, x⟩ | ⟨h, ps, h1, h2, h3⟩
  · exact .inl ⟨h, x.kp e k⟩
  · refine .inr ⟨h, ps, e.trans h1, h2, fun pos cv hc => ?_⟩
    obtain ⟨c, e1, e2⟩ := h3 pos cv hc
    exact ⟨c, e1, k _ _ e2⟩
theorem BagK.bag {n : Nat} {M : List Addr} {H : Hp} {b : Addr} (x : BagK n M H b) (h : n ≤ 1) : Bag M H b := by
  rcases x with ⟨_, x⟩ | ⟨h2, _⟩
  · exact x
  · omega
theorem BagK.some {n : Nat} {M : List Addr} {H : Hp} {b : Addr} (x : BagK n M H b) : ∃ o, H b = .some o := by
  rcases x with ⟨_, _, _, _, h, _⟩ | ⟨_, _, h, _⟩
  · exact ⟨_, h⟩
  · exact ⟨_, h⟩
theorem BagK.same {n : Nat} {M : List Addr} {H H' : Hp} {b : Addr} (x : BagK n M H b) (s : ∀ a o, H a = .some o → H' a = .some o) (k : ∀ a o, mask M H a = .some o → mask M H' a = .some o) : BagK n M H' b := by
  obtain ⟨o, h⟩ := x.some
  exact x.kp ((s _ _ h).trans h.symm) k

/-! ### the names of a def -/
inductive Slot where
  /-- not bound, or forgotten -/
  | un
  /-- data that stays -/
  | d (x : D)
  /-- a list that is the def's own, at a: it may be changed -/
  | own (a : Addr) (xs : List D)
  /-- a bag -/
  | bag (b : Addr)
  /-- anything else -/
  | raw (v : V)
  /-- the script -/
  | scr (ns : List Int)
  /-- a lambda with its code object -/
  | lam (f c : Addr) (q : Str)
  /-- .. the function object known too -/
  | fn (f c : Addr) (q : Str) (ob : Obj)
  /-- a table of code objects is at hand -/
  | tab (P : Addr) (n : Nat)
  /-- an instance of C whose attributes are data that stay -/
  | obj (x C : Addr) (fs : List (Str × D))
def Slot.ow : Slot → Option Addr
  | .own a _ => some a
  | _ => none
def owns (δ : List Slot) : List Addr := δ.filterMap Slot.ow
/-- the function object at f -/
def LamO (f : Addr) (ob : Obj) : HO := .ext fun h => h.get? f = some ob
def SOk (K : PySem.W.Frag) (B M : List Addr) (H : Hp) : Slot → Option V → Prop
  | .un, _ => True
  | .d x, v => ∃ w, v = some w ∧ Td (mask M H) w x
  | .own a xs, v => v = some (.ref a) ∧ ∃ vs, H a = some (.lst vs) ∧ vs.length ≤ sizeLine ∧ Tds (mask M H) vs xs
  | .bag b, v => v = some (.ref b) ∧ (b ∈ B ∧ B.count b ≤ 1)
  | .raw w, v => v = some w
  | .scr ns, v => ∃ a, v = some (.ref a) ∧ SqL K (mask M H) a (ns.map V.int)
  | .lam f c q, v => v = some (.ref f) ∧ mask M H c = some (LamX.CodeO c q)
  | .fn f c q ob, v => v = some (.ref f) ∧ mask M H c = some (LamX.CodeO c q) ∧ mask M H f = some (LamO f ob)
  | .tab P n, _ => P ∈ B ∧ B.count P = n
  | .obj x C fs, v => v = some (.ref x) ∧ ∃ (dx : Addr) (fv : List (Str × V)), mask M H x = some (.ins C dx fv) ∧ ∀ f d, fs.lookup f = some d → ∃ u, fv.lookup f = some u ∧ Td (mask M H) u d
/-- the frame of what runs: what may change since h0, the bags, what is hidden -/
structure Fm where
  mu : List Addr
  h0 : Hp
  B : List Addr
  Z : List Addr
def msk (F : Fm) (δ : List Slot) : List Addr := F.B ++ (owns δ ++ F.Z)
/-- tracked, and no code object -/
def NC (o : Option HO) : Prop := ∃ x, o = some x ∧ ∀ φ, x ≠ .ext φ
theorem NC.ne {o : Option HO} (h : NC o) : o ≠ none := by
  obtain ⟨x, rfl, _⟩ := h
  exact fun z => by cases z
theorem nc_lst {xs : List V} : NC (some (.lst xs)) := ⟨_, rfl, fun _ z => nomatch z⟩
theorem nc_tbl {ps : Array Value} : NC (some (.tbl ps)) := ⟨_, rfl, fun _ z => nomatch z⟩
/-- bags and hidden objects stand -/
structure Glo (B Z : List Addr) (H : Hp) : Prop where
  there : ∀ a ∈ B ++ Z, NC (H a)
  bags : ∀ b ∈ B, BagK (B.count b) (B ++ Z) H b
  zl : ∀ a ∈ Z, ∃ xs, H a = some (.lst xs)
structure En (K : PySem.W.Frag) (F : Fm) (δ : List Slot) (σ : L2.St) (H : Hp) : Prop where
  len : σ.length = δ.length
  sl : ∀ (i : Nat) (s : Slot), δ[i]? = some s → SOk K F.B (msk F δ) H s (σ[i]?.join)
  nd : (owns δ).Nodup
  dj : ∀ a ∈ owns δ, a ∉ F.B ++ F.Z
  fr : ∀ a ∈ owns δ, a ∈ F.mu ∨ F.h0 a = none
  bm : ∀ a ∈ F.B, a ∈ F.mu
  zm : ∀ a ∈ F.Z, a ∉ F.mu
  base : Kp F.mu F.h0 H
  glo : Glo F.B (owns δ ++ F.Z) H
section
variable {K : PySem.W.Frag} {F : Fm} {δ : List Slot} {σ : L2.St} {H H' : Hp} {i : Nat}
theorem En.nc (en : En K F δ σ H) : ∀ a ∈ msk F δ, NC (H a) := en.glo.there
theorem En.tracked (en : En K F δ σ H) : ∀ a ∈ msk F δ, H a ≠ none := fun a m => (en.glo.there a m).ne
theorem En.fresh (en : En K F δ σ H) {p : Addr} (h : H p = none) : p ∉ msk F δ := fun z => en.tracked p z h
theorem SOk.kp {B M M' : List Addr} {s : Slot} {v : Option V} (x : SOk K B M H s v) (e : ∀ a xs, s = .own a xs → H' a = H a) (k : ∀ a o, mask M H a = some o → mask M' H' a = some o) : SOk K B M' H' s v := by
  cases s with
  | un => exact True.intro
  | d y => obtain ⟨w, e1, t⟩ := x; exact ⟨w, e1, t.mono k⟩
  | own a xs => obtain ⟨e1, vs, e2, z, t⟩ := x; exact ⟨e1, vs, (e a xs rfl).trans e2, z, t.mono k⟩
  | bag b => exact x
  | raw w => exact x
  | lam f c q => exact ⟨x.1, k _ _ x.2⟩
  | fn f c q ob => exact ⟨x.1, k _ _ x.2.1, k _ _ x.2.2⟩
  | tab P n => exact x
  | obj a C fs =>
    obtain ⟨e1, dx, fv, e2, q⟩ := x
    exact ⟨e1, dx, fv, k _ _ e2, fun f d h => by
      obtain ⟨u, h1, h2⟩ := q f d h
      exact ⟨u, h1, h2.mono k⟩⟩
  | scr ns =>
    obtain ⟨a, e1, q⟩ := x
    refine ⟨a, e1, ?_⟩
    rcases q with (q | ⟨o, q⟩) | q
    · exact .inl (.inl (k _ _ q))
    · exact .inl (.inr ⟨o, k _ _ q⟩)
    · exact .inr q
theorem mem_owns {a : Addr} {xs : List D} (h : δ[i]? = some (.own a xs)) : a ∈ owns δ := List.mem_filterMap.mpr ⟨_, List.mem_of_getElem? h, rfl⟩
theorem of_owns {a : Addr} (h : a ∈ owns δ) : ∃ (i : Nat) (xs : List D), δ[i]? = some (.own a xs) := by
  obtain ⟨s, hs, e⟩ := List.mem_filterMap.mp h
  obtain ⟨i, hi⟩ := List.getElem?_of_mem hs
  cases s with
  | own b xs => cases e; exact ⟨i, xs, hi⟩
  | _ => cases e
theorem En.ownAt (en : En K F δ σ H) {a : Addr} {xs : List D} (h : δ[i]? = some (.own a xs)) : σ[i]? = some (some (.ref a)) ∧ ∃ vs, H a = some (.lst vs) ∧ vs.length ≤ sizeLine ∧ Tds (mask (msk F δ) H) vs xs := by
  obtain ⟨e, r⟩ := en.sl i _ h
  refine ⟨?_, r⟩
  cases q : σ[i]? with
  | none => rw [q] at e; cases e
  | some v => rw [q] at e; rw [show v = some (V.ref a) from e]
/-- the heap grows, bags turn -/
theorem En.step (en : En K F δ σ H) (k : Kp F.B H H') (g : Glo F.B (owns δ ++ F.Z) H') : En K F δ σ H' where
  len := en.len
  sl := fun i s h => (en.sl i s h).kp (fun a xs e => by
      subst e
      obtain ⟨_, vs, e2, _, _⟩ := en.ownAt h
      rw [e2]
      exact k _ _ (fun z => en.dj a (mem_owns h) (List.mem_append_left _ z)) e2) (kp_mask k fun a h => List.mem_append_left _ h)
  nd := en.nd
  dj := en.dj
  fr := en.fr
  bm := en.bm
  zm := en.zm
  base := en.base.trans (k.mono en.bm)
  glo := g
theorem Glo.same {B Z : List Addr} (g : Glo B Z H) (s : Same H H') : Glo B Z H' :=
  ⟨fun a h => by
    obtain ⟨o, q, n⟩ := g.there a h
    exact ⟨o, s a o q, n⟩,
   fun b h => by
    exact (g.bags b h).same s (same_mask s),
   fun a m => let ⟨xs, z⟩ := g.zl a m; ⟨xs, s _ _ z⟩⟩
theorem En.same (en : En K F δ σ H) (s : Same H H') : En K F δ σ H' := en.step (.of_same s) (en.glo.same s)
theorem En.at (en : En K F δ σ H) {x : D} (h : δ[i]? = some (.d x)) : ∃ v, σ[i]? = some (some v) ∧ Td (mask (msk F δ) H) v x := by
  obtain ⟨w, e, t⟩ := en.sl i _ h
  refine ⟨w, ?_, t⟩
  cases q : σ[i]? with
  | none => rw [q] at e; cases e
  | some v => rw [q] at e; rw [show v = some w from e]
theorem En.rawAt (en : En K F δ σ H) {w : V} (h : δ[i]? = some (.raw w)) : σ[i]? = some (some w) := by
  have e := en.sl i _ h
  cases q : σ[i]? with
  | none => rw [q] at e; cases e
  | some v => rw [q] at e; rw [show v = some w from e]
theorem En.fnAt (en : En K F δ σ H) {f c : Addr} {q : Str} {ob : Obj} (h : δ[i]? = some (.fn f c q ob)) : σ[i]? = some (some (.ref f)) ∧ mask (msk F δ) H c = some (LamX.CodeO c q) ∧ mask (msk F δ) H f = some (LamO f ob) := by
  obtain ⟨e, m⟩ := en.sl i _ h
  refine ⟨?_, m⟩
  cases q : σ[i]? with
  | none => rw [q] at e; cases e
  | some v => rw [q] at e; rw [show v = some (V.ref f) from e]
theorem En.lamAt (en : En K F δ σ H) {f c : Addr} {q : Str} (h : δ[i]? = some (.lam f c q)) : σ[i]? = some (some (.ref f)) ∧ mask (msk F δ) H c = some (LamX.CodeO c q) := by
  obtain ⟨e, m⟩ := en.sl i _ h
  refine ⟨?_, m⟩
  cases q : σ[i]? with
  | none => rw [q] at e; cases e
  | some v => rw [q] at e; rw [show v = some (V.ref f) from e]
theorem En.bagAt (en : En K F δ σ H) {b : Addr} (h : δ[i]? = some (.bag b)) : σ[i]? = some (some (.ref b)) ∧ (b ∈ F.B ∧ F.B.count b ≤ 1) := by
  obtain ⟨e, m⟩ := en.sl i _ h
  refine ⟨?_, m⟩
  cases q : σ[i]? with
  | none => rw [q] at e; cases e
  | some v => rw [q] at e; rw [show v = some (V.ref b) from e]
theorem En.scrAt (en : En K F δ σ H) {ns : List Int} (h : δ[i]? = some (.scr ns)) : ∃ a, σ[i]? = some (some (.ref a)) ∧ SqL K (mask (msk F δ) H) a (ns.map V.int) := by
  obtain ⟨a, e, q'⟩ := en.sl i _ h
  refine ⟨a, ?_, q'⟩
  cases q : σ[i]? with
  | none => rw [q] at e; cases e
  | some v => rw [q] at e; rw [show v = some (V.ref a) from e]
theorem sql_mask {M : List Addr} {a : Addr} {xs : List V} (h : SqL K (mask M H) a xs) : SqL K H a xs := by
  rcases h with (q | ⟨o, q⟩) | q
  · exact .inl (.inl (mask_le _ _ q))
  · exact .inl (.inr ⟨o, mask_le _ _ q⟩)
  · exact .inr q
/-! #### slots change -/
theorem owns_set_sub {s : Slot} (h : s.ow = none) : ∀ a ∈ owns (δ.set i s), a ∈ owns δ := fun a m => by
  obtain ⟨j, xs, e⟩ := of_owns m
  by_cases hj : i = j
  · subst hj
    by_cases hl : i < δ.length
    · rw [List.getElem?_set_self hl] at e
      have e := Option.some.inj e
      subst e
      cases h
    · rw [List.getElem?_eq_none (by simpa using hl)] at e; cases e
  · rw [List.getElem?_set_ne hj] at e
    exact mem_owns e
theorem owns_set_nd {s : Slot} (h : s.ow = none) (nd : (owns δ).Nodup) : (owns (δ.set i s)).Nodup := by
  refine List.Nodup.sublist ?_ nd
  clear nd
  induction δ generalizing i with
  | nil => exact .slnil
  | cons t r ih =>
    cases i with
    | zero =>
      show List.Sublist (List.filterMap Slot.ow (s :: r)) (List.filterMap Slot.ow (t :: r))
      rw [List.filterMap_cons, h, List.filterMap_cons]
      cases t.ow with
      | none => exact List.Sublist.refl _
      | some a => exact List.sublist_cons_self _ _
    | succ i =>
      show List.Sublist (List.filterMap Slot.ow (t :: r.set i s)) (List.filterMap Slot.ow (t :: r))
      rw [List.filterMap_cons, List.filterMap_cons]
      cases t.ow with
      | none => exact ih
      | some a => exact ih.cons_cons a
theorem msk_sub {δ' : List Slot} (h : ∀ a ∈ owns δ', a ∈ owns δ) : ∀ a ∈ msk F δ', a ∈ msk F δ := fun a m => by
  rcases List.mem_append.mp m with m | m
  · exact List.mem_append_left _ m
  · rcases List.mem_append.mp m with m | m
    · exact List.mem_append_right _ (List.mem_append_left _ (h a m))
    · exact List.mem_append_right _ (List.mem_append_right _ m)
theorem Glo.sub {B Z Z' : List Addr} (g : Glo B Z H) (h : ∀ a ∈ Z', a ∈ Z) : Glo B Z' H :=
  ⟨fun a m => g.there a ((List.mem_append.mp m).elim (List.mem_append_left _) fun m => List.mem_append_right _ (h a m)),
   fun b m => (g.bags b m).kp rfl (mask_sub fun a m => (List.mem_append.mp m).elim (List.mem_append_left _) fun m => List.mem_append_right _ (h a m)), fun a m => g.zl a (h a m)⟩
theorem join_set_self {α : Type} {l : List (Option α)} {v : Option α} (h : i < l.length) : (l.set i v)[i]?.join = v := by
  rw [List.getElem?_set_self h]; rfl
/-- a slot is bound to what is no list of one's own -/
theorem En.put (en : En K F δ σ H) {s : Slot} {v : V} (hs : s.ow = none) (h : SOk K F.B (msk F (δ.set i s)) H s (some v)) : En K F (δ.set i s) (σ.set i (some v)) H := by
  have sub := owns_set_sub (δ := δ) (i := i) hs
  refine ⟨by rw [List.length_set, List.length_set, en.len], fun j t e => ?_, owns_set_nd hs en.nd, fun a m => en.dj a (sub a m), fun a m => en.fr a (sub a m), en.bm, en.zm, en.base, en.glo.sub fun a m => ?_⟩
  · by_cases hj : i = j
    · subst hj
      by_cases hl : i < δ.length
      · rw [List.getElem?_set_self hl] at e
        have e := Option.some.inj e
        subst e
        rw [join_set_self (by rw [en.len]; exact hl)]
        exact h
      · rw [List.getElem?_eq_none (by simpa using hl)] at e; cases e
    · rw [List.getElem?_set_ne hj] at e
      rw [List.getElem?_set_ne hj]
      exact (en.sl j t e).kp (fun _ _ _ => rfl) (mask_sub (msk_sub sub))
  · exact (List.mem_append.mp m).elim (fun m => List.mem_append_left _ (sub a m)) fun m => List.mem_append_right _ m
/-- a slot is forgotten, its place may hold anything -/
theorem En.forget (en : En K F δ σ H) {v : Option V} : En K F (δ.set i .un) (σ.set i v) H := by
  have sub := owns_set_sub (δ := δ) (i := i) (s := .un) rfl
  refine ⟨by rw [List.length_set, List.length_set, en.len], fun j t e => ?_, owns_set_nd rfl en.nd, fun a m => en.dj a (sub a m), fun a m => en.fr a (sub a m), en.bm, en.zm, en.base, en.glo.sub fun a m => ?_⟩
  · by_cases hj : i = j
    · subst hj
      by_cases hl : i < δ.length
      · rw [List.getElem?_set_self hl] at e
        have e := Option.some.inj e
        subst e
        exact True.intro
      · rw [List.getElem?_eq_none (by simpa using hl)] at e; cases e
    · rw [List.getElem?_set_ne hj] at e
      rw [List.getElem?_set_ne hj]
      exact (en.sl j t e).kp (fun _ _ _ => rfl) (mask_sub (msk_sub sub))
  · exact (List.mem_append.mp m).elim (fun m => List.mem_append_left _ (sub a m)) fun m => List.mem_append_right _ m
theorem set_self_get {α : Type} {l : List α} {x : α} (h : l[i]? = some x) : l.set i x = l := by
  obtain ⟨hl, e⟩ := List.getElem?_eq_some_iff.mp h
  subst e
  exact List.set_getElem_self hl
/-- a slot is forgotten (its value stays) -/
theorem En.drop (en : En K F δ σ H) : En K F (δ.set i .un) σ H := by
  cases q : σ[i]? with
  | none =>
    have hl : δ.length ≤ i := by rw [← en.len]; exact List.getElem?_eq_none_iff.mp q
    rw [List.set_eq_of_length_le hl]
    exact en
  | some v =>
    have := en.forget (i := i) (v := v)
    rw [set_self_get q] at this
    exact this
/-- a list of one's own becomes data -/
theorem En.freeze (en : En K F δ σ H) {a : Addr} {xs : List D} (h : δ[i]? = some (.own a xs)) : En K F (δ.set i (.d (.list xs))) σ H := by
  obtain ⟨e1, vs, e2, z, t⟩ := en.ownAt h
  have sub := owns_set_sub (δ := δ) (i := i) (s := .d (.list xs)) rfl
  have na : a ∉ owns (δ.set i (.d (.list xs))) := fun m => by
    have hl : i < δ.length := (List.getElem?_eq_some_iff.mp h).1
    have nd := en.nd
    have h0 : ∀ (l : List Slot) (i : Nat), l[i]? = some (.own a xs) → (owns l).Nodup → a ∉ owns (l.set i (.d (.list xs))) := by
      intro l
      induction l with
      | nil => intro i h; simp at h
      | cons t r ih =>
        intro i h nd m
        cases i with
        | zero =>
          have e : t = .own a xs := by simpa using h
          subst e
          have m : a ∈ owns r := m
          have nd : (a :: owns r).Nodup := nd
          exact (List.nodup_cons.mp nd).1 m
        | succ i =>
          have h : r[i]? = some (.own a xs) := by simpa using h
          cases q : t.ow with
          | none =>
            have m : a ∈ List.filterMap Slot.ow (t :: r.set i (.d (.list xs))) := m
            have nd : (List.filterMap Slot.ow (t :: r)).Nodup := nd
            rw [List.filterMap_cons, q] at m nd
            exact ih i h nd m
          | some b =>
            have m : a ∈ List.filterMap Slot.ow (t :: r.set i (.d (.list xs))) := m
            have nd : (List.filterMap Slot.ow (t :: r)).Nodup := nd
            rw [List.filterMap_cons, q] at m nd
            obtain ⟨n1, n2⟩ := List.nodup_cons.mp nd
            rcases List.mem_cons.mp m with e | m
            · subst e; exact n1 (mem_owns h)
            · exact ih i h n2 m
    exact h0 δ i h nd m
  have dj := en.dj a (mem_owns h)
  have := en.put (i := i) (s := .d (.list xs)) (v := .ref a) rfl ⟨_, rfl, .lst (mask_of (fun m => ?_) e2) z (t.mono (mask_sub (msk_sub sub)))⟩
  · rw [set_self_get e1] at this
    exact this
  · rcases List.mem_append.mp m with m | m
    · exact dj (List.mem_append_left _ m)
    · rcases List.mem_append.mp m with m | m
      · exact na m
      · exact dj (List.mem_append_right _ m)
end
end Tl

set_option linter.all false
set_option maxRecDepth 100000
set_option maxHeartbeats 4000000
namespace Tl
open PySem PySem.Spec PyProof.Rows L2

/-! ### judgements -/
def Wx (F : Fm) (ex : Value → Prop) : WX := fun cls d _ H => d = none ∧ Kp F.mu F.h0 H ∧ Glo F.B F.Z H ∧ ex cls
/-- an expression: whatever data it may give, k holds of it -/
def Pe (X : Cx) (ex : Value → Prop) (δ : List Slot) (e : Expr) (k : D → Prop) : Prop :=
  ∀ (F : Fm) (σ : L2.St) (H : Hp), En X.K F δ σ H → L2N.Takes X (Wx F ex) → WE X e σ H fun v H' => En X.K F δ σ H' ∧ Kp F.B H H' ∧ ∃ d, Td (mask (msk F δ) H') v d ∧ k d
/-- an expression whose value is no data -/
def Pr (X : Cx) (ex : Value → Prop) (δ : List Slot) (e : Expr) (k : V → Prop) : Prop :=
  ∀ (F : Fm) (σ : L2.St) (H : Hp), En X.K F δ σ H → L2N.Takes X (Wx F ex) → WE X e σ H fun v H' => En X.K F δ σ H' ∧ Kp F.B H H' ∧ k v
def Pt (X : Cx) (ex : Value → Prop) (δ : List Slot) (e : Expr) (k : Bool → Prop) : Prop :=
  ∀ (F : Fm) (σ : L2.St) (H : Hp), En X.K F δ σ H → L2N.Takes X (Wx F ex) → WT X e σ H fun b H' => En X.K F δ σ H' ∧ Kp F.B H H' ∧ k b
def Pw (X : Cx) (ex : Value → Prop) (δ : List Slot) (e : Expr) (k : Bool → Prop) : Prop :=
  ∀ (F : Fm) (σ : L2.St) (H : Hp), En X.K F δ σ H → L2N.Takes X (Wx F ex) → WW X e σ H fun b H' => En X.K F δ σ H' ∧ Kp F.B H H' ∧ k b
def SArgs (K : PySem.W.Frag) (B M : List Addr) (H : Hp) : List Slot → List V → Prop := Paired fun s v => s.ow = none ∧ SOk K B M H s (some v)
def Pa (X : Cx) (ex : Value → Prop) (δ : List Slot) (es : List Expr) (k : List Slot → Prop) : Prop :=
  ∀ (F : Fm) (σ : L2.St) (H : Hp), En X.K F δ σ H → L2N.Takes X (Wx F ex) → WA X es σ H fun vs H' => En X.K F δ σ H' ∧ Kp F.B H H' ∧ ∃ ss, SArgs X.K F.B (msk F δ) H' ss vs ∧ k ss

section
variable {X : Cx} {ex : Value → Prop} {δ : List Slot} {e a b c : Expr} {es rest : List Expr} {pos p : Pos} {k : D → Prop} {x : Str} {i : Nat}
theorem kp_msk {F : Fm} {H H' : Hp} (h : Kp F.B H H') : ∀ a o, mask (msk F δ) H a = some o → mask (msk F δ) H' a = some o := kp_mask h fun a m => List.mem_append_left _ m
theorem Pe.mono {k' : D → Prop} (h : Pe X ex δ e k) (q : ∀ d, k d → k' d) : Pe X ex δ e k' := fun F σ H en tk =>
  we_mono (h F σ H en tk) fun v H' ⟨en', kp, d, t, z⟩ => ⟨en', kp, d, t, q d z⟩
theorem Pt.mono {k k' : Bool → Prop} (h : Pt X ex δ e k) (q : ∀ d, k d → k' d) : Pt X ex δ e k' := fun F σ H en tk =>
  wt_mono (h F σ H en tk) fun v H' ⟨en', kp, z⟩ => ⟨en', kp, q _ z⟩

/-! ### names, constants -/
theorem pe_nm (i : Nat) {x : Str} {d : D} (hi : δ[i]? = some (.d d)) (h : k d) (hN : X.N[i]? = some x := by rfl) (hv : Vis X.env.scope x := by first | exact Or.inl rfl | exact Or.inr (Or.inl rfl) | exact Or.inr (Or.inr rfl))
    (hd : (x == ("__debug__" : Str)) = false := by decide) (hcd : (x == ("__classdict__" : Str)) = false := by decide) : Pe X ex δ (.Name x pos) k := fun F σ H en tk => by
  obtain ⟨v, e1, t⟩ := en.at hi
  exact we_of (pe_var hN hv hd hcd) ⟨v, e1, en, .refl _, d, t, h⟩
theorem pr_nm (i : Nat) {x : Str} {w : V} {k : V → Prop} (hi : δ[i]? = some (.raw w)) (h : k w) (hN : X.N[i]? = some x := by rfl) (hv : Vis X.env.scope x := by first | exact Or.inl rfl | exact Or.inr (Or.inl rfl) | exact Or.inr (Or.inr rfl))
    (hd : (x == ("__debug__" : Str)) = false := by decide) (hcd : (x == ("__classdict__" : Str)) = false := by decide) : Pr X ex δ (.Name x pos) k := fun F σ H en tk =>
  we_of (pe_var hN hv hd hcd) ⟨w, en.rawAt hi, en, .refl _, h⟩
theorem pe_i {n : Int} {j : Nat} (h : k (.int n)) : Pe X ex δ (.Constant (.int n) j pos) k := fun F σ H en tk => we_of L2.pe_int ⟨en, .refl _, _, .int n, h⟩
theorem pe_s {z : Str} {j : Nat} (h : k (.str z)) : Pe X ex δ (.Constant (.str z) j pos) k := fun F σ H en tk => we_of L2.pe_str ⟨en, .refl _, _, .str z, h⟩
theorem pe_b {z : Bool} {j : Nat} (h : k (.bool z)) : Pe X ex δ (.Constant (.bool z) j pos) k := fun F σ H en tk => we_of L2.pe_bl ⟨en, .refl _, _, .bl z, h⟩
theorem pe_n {j : Nat} (h : k .none) : Pe X ex δ (.Constant .none j pos) k := fun F σ H en tk => we_of L2.pe_non ⟨en, .refl _, _, .non, h⟩
/-- a whole number of the module -/
theorem pe_gi {n : Int} {t : Tok} (hm : X.mg x = some (.int n t)) (h : k (.int n)) (hg : Gl X x := by rfl) (hd : (x == ("__debug__" : Str)) = false := by decide) : Pe X ex δ (.Name x pos) k := fun F σ H en tk => we_of (pe_glob (v := .int n) hg hm ⟨t, rfl⟩ hd) ⟨en, .refl _, _, .int n, h⟩
/-- a built-in class, an own class as a value -/
theorem pr_ty {T : String} {k : V → Prop} (hm : X.mg x = none) (hv : bootBuiltins x = some (.type T)) (h : k (.ty T)) (hg : Gl X x := by rfl) (hn : x ≠ "__name__" := by decide) (hd : (x == ("__debug__" : Str)) = false := by decide) : Pr X ex δ (.Name x pos) k := fun F σ H en tk =>
  we_of (pe_bltn (v := .ty T) hg hm hv rfl hn hd) ⟨en, .refl _, h⟩
theorem pr_gl {C : Addr} {k : V → Prop} (hm : X.mg x = some (.ref C)) (h : k (.ref C)) (hg : Gl X x := by rfl) (hd : (x == ("__debug__" : Str)) = false := by decide) : Pr X ex δ (.Name x pos) k := fun F σ H en tk =>
  we_of (pe_glob (v := .ref C) hg hm rfl hd) ⟨en, .refl _, h⟩

/-! ### two operands -/
/-- a two-place rule over data -/
def D2 (r : R2) (x y : D) (k : D → Prop) : Prop := ∀ (M : List Addr) (H : Hp) (v u : V), (∀ a ∈ M, H a ≠ none) → Td (mask M H) v x → Td (mask M H) u y →
  ∀ Q : VK, (∀ (z : V) (H' : Hp) (d : D), Same H H' → Td (mask M H') z d → k d → Q z H') → r v u H Q
theorem bin2 {r : R2} (h : Pe X ex δ a fun x => Pe X ex δ b fun y => D2 r x y k) {F : Fm} {σ : L2.St} {H : Hp} (en : En X.K F δ σ H) (tk : L2N.Takes X (Wx F ex)) :
    tOp r (WE X a) (WE X b) σ H fun v H' => En X.K F δ σ H' ∧ Kp F.B H H' ∧ ∃ d, Td (mask (msk F δ) H') v d ∧ k d :=
  we_mono (h F σ H en tk) fun v H1 ⟨en1, k1, d1, t1, q1⟩ => we_mono (q1 F σ H1 en1 tk) fun u H2 ⟨en2, k2, d2, t2, q2⟩ =>
    q2 (msk F δ) H2 v u en2.tracked (t1.mono (kp_msk k2)) t2 _ fun z H3 d s3 t3 q3 => ⟨en2.same s3, (k1.trans k2).trans (.of_same s3), d, t3, q3⟩
theorem pe_bo {op : Operator} {r : R2} (ho : OpR X (binaryOp op) r) (h : Pe X ex δ a fun x => Pe X ex δ b fun y => D2 r x y k) : Pe X ex δ (.BinOp a op b pos) k :=
  fun F σ H en tk => we_of (L2.pe_op ho pe_self pe_self) (bin2 h en tk)
theorem pe_cm {op : CmpOp} {r : R2} (ho : OpR X (compareOp op) r) (hm : behindInMarks op b = false) (h : Pe X ex δ a fun x => Pe X ex δ b fun y => D2 r x y k) : Pe X ex δ (.Compare a [op] [b] pos) k :=
  fun F σ H en tk => we_of (pe_cmpR ho pe_self pe_self hm) (bin2 h en tk)
theorem pt_cm {op : CmpOp} {r : R2} {k : Bool → Prop} (ho : OpR X (compareOp op) r) (hm : behindInMarks op b = false) (h : Pe X ex δ a fun x => Pe X ex δ b fun y => D2 r x y fun d => ∃ c, d = .bool c ∧ k c) : Pt X ex δ (.Compare a [op] [b] pos) k :=
  fun F σ H en tk => wt_of (pt_cmpR ho pe_self pe_self hm) (we_mono (h F σ H en tk) fun v H1 ⟨en1, k1, d1, t1, q1⟩ => we_mono (q1 F σ H1 en1 tk) fun u H2 ⟨en2, k2, d2, t2, q2⟩ =>
    q2 (msk F δ) H2 v u en2.tracked (t1.mono (kp_msk k2)) t2 _ fun z H3 d s3 t3 q3 => by
      obtain ⟨c, e1, q3⟩ := q3
      subst e1
      cases t3
      exact ⟨c, rfl, en2.same s3, (k1.trans k2).trans (.of_same s3), q3⟩)

theorem d2_I {C : Int → Int → Prop} {g : Int → Int → Int} {x y : D} (h : ∃ i j, x = .int i ∧ y = .int j ∧ C i j ∧ k (.int (g i j))) : D2 (rI C fun i j => .int (g i j)) x y k := by
  obtain ⟨i, j, e1, e2, hc, q⟩ := h
  subst e1; subst e2
  intro M H v u _ t1 t2 Q hq
  cases t1; cases t2
  exact ⟨i, j, rfl, rfl, hc, hq _ _ _ (.refl H) (.int _) q⟩
theorem d2_I0 {g : Int → Int → Int} {x y : D} (h : ∃ i j, x = .int i ∧ y = .int j ∧ k (.int (g i j))) : D2 (rI0 fun i j => .int (g i j)) x y k := by
  obtain ⟨i, j, e1, e2, q⟩ := h
  subst e1; subst e2
  intro M H v u _ t1 t2 Q hq
  cases t1; cases t2
  exact ⟨i, j, rfl, rfl, hq _ _ _ (.refl H) (.int _) q⟩
theorem d2_B0 {g : Int → Int → Bool} {x y : D} (h : ∃ i j, x = .int i ∧ y = .int j ∧ k (.bool (g i j))) : D2 (rI0 fun i j => .bl (g i j)) x y k := by
  obtain ⟨i, j, e1, e2, q⟩ := h
  subst e1; subst e2
  intro M H v u _ t1 t2 Q hq
  cases t1; cases t2
  exact ⟨i, j, rfl, rfl, hq _ _ _ (.refl H) (.bl _) q⟩
theorem d2_eq {x y : D} (h : SeqAt.shaped x = true ∧ SeqAt.shaped y = true ∧ k (.bool (PyData.eqv x y))) : D2 (rEqD X.K) x y k := by
  obtain ⟨h1, h2, q⟩ := h
  intro M H v u _ t1 t2 Q hq
  exact ⟨x, y, (t1.mono mask_le).dp, (t2.mono mask_le).dp, h1, h2, hq _ _ _ (.refl H) (.bl _) q⟩
theorem d2_ne {x y : D} (h : SeqAt.shaped x = true ∧ SeqAt.shaped y = true ∧ k (.bool (!PyData.eqv x y))) : D2 (rNeD X.K) x y k := by
  obtain ⟨h1, h2, q⟩ := h
  intro M H v u _ t1 t2 Q hq
  exact ⟨x, y, (t1.mono mask_le).dp, (t2.mono mask_le).dp, h1, h2, hq _ _ _ (.refl H) (.bl _) q⟩
/-- a new object over a mask -/
theorem mask_new {M : List Addr} {H : Hp} {p : Addr} {o : HO} (hM : ∀ a ∈ M, H a ≠ none) (h : H p = none) : mask M (upd H p o) p = some o := mask_of (fun z => hM p z h) upd_same
theorem d2_cat {x y : D} (h : ∃ xs ys, x = .list xs ∧ y = .list ys ∧ xs.length + ys.length ≤ 16777216 ∧ k (.list (xs ++ ys))) : D2 rCat x y k := by
  obtain ⟨xs, ys, e1, e2, hz, q⟩ := h
  subst e1; subst e2
  intro M H v u hM t1 t2 Q hq
  cases t1 with
  | @lst a1 us _ e1 z1 t1 =>
    cases t2 with
    | @lst a2 ws _ e2 z2 t2 =>
      have hz' : us.length + ws.length ≤ sizeLine := by rw [t1.length, t2.length, sizeLine_eq]; exact hz
      refine ⟨_, _, _, _, rfl, rfl, mask_le _ _ e1, mask_le _ _ e2, hz', fun p hp => hq _ _ _ (same_upd hp) (.lst (mask_new hM hp) (by rw [List.length_append]; exact hz') ?_) q⟩
      exact Tds.app (t1.mono (same_mask (same_upd hp))) (t2.mono (same_mask (same_upd hp)))
theorem d2_catT {K : PySem.W.Frag} {x y : D} (h : ∃ xs ys, x = .tuple xs ∧ y = .tuple ys ∧ xs.length + ys.length ≤ 16777216 ∧ k (.tuple (xs ++ ys))) : D2 (rCatA K) x y k := by
  obtain ⟨xs, ys, e1, e2, hz, q⟩ := h
  subst e1; subst e2
  intro M H v u hM t1 t2 Q hq
  cases t1 with
  | @tup a1 us _ e1 z1 t1 =>
    cases t2 with
    | @tup a2 ws _ e2 z2 t2 =>
      have hz' : us.length + ws.length ≤ sizeLine := by rw [t1.length, t2.length, sizeLine_eq]; exact hz
      refine ⟨_, _, _, _, rfl, rfl, .of (mask_le _ _ e1), .of (mask_le _ _ e2), hz', fun z => ?_, fun _ z => ?_, fun _ _ p hp => hq _ _ _ (same_upd hp) (.tup (mask_new hM hp) (by rw [List.length_append]; exact hz') ?_) q⟩
      · subst z
        cases t1
        exact hq _ _ _ (.refl H) (.tup e2 z2 t2) q
      · subst z
        cases t2
        rw [List.append_nil] at q
        exact hq _ _ _ (.refl H) (.tup e1 z1 t1) q
      · exact Tds.app (t1.mono (same_mask (same_upd hp))) (t2.mono (same_mask (same_upd hp)))
/-- xs[i] of a list, of a tuple -/
theorem d2_ixT {K : PySem.W.Frag} {x y : D} (h : ∃ xs n d, x = .tuple xs ∧ y = .int n ∧ atI xs n = some d ∧ k d) : D2 (rIxT K) x y k := by
  obtain ⟨xs, n, d, e1, e2, he, q⟩ := h
  subst e1; subst e2
  intro M H v u hM t1 t2 Q hq
  cases t2
  cases t1 with
  | tup e1 z1 t1 =>
    have he' : (ixN xs.length n).bind (fun j => xs[j]?) = some d := he
    cases hj : ixN xs.length n with
    | none => rw [hj] at he'; cases he'
    | some j =>
      rw [hj] at he'
      obtain ⟨w, hw, tw⟩ := t1.get' he'
      refine ⟨_, _, n, w, rfl, rfl, .of (mask_le _ _ e1), ?_, hq _ _ _ (.refl H) tw q⟩
      show (ixN _ n).bind _ = _
      rw [t1.length, hj]
      exact hw
theorem d2_ixL {K : PySem.W.Frag} {x y : D} (h : ∃ xs n d, x = .list xs ∧ y = .int n ∧ atI xs n = some d ∧ k d) : D2 (rIxL K) x y k := by
  obtain ⟨xs, n, d, e1, e2, he, q⟩ := h
  subst e1; subst e2
  intro M H v u hM t1 t2 Q hq
  cases t2
  cases t1 with
  | lst e1 z1 t1 =>
    have he' : (ixN xs.length n).bind (fun j => xs[j]?) = some d := he
    cases hj : ixN xs.length n with
    | none => rw [hj] at he'; cases he'
    | some j =>
      rw [hj] at he'
      obtain ⟨w, hw, tw⟩ := t1.get' he'
      refine ⟨_, _, n, w, rfl, rfl, .of (mask_le _ _ e1), ?_, hq _ _ _ (.refl H) tw q⟩
      show (ixN _ n).bind _ = _
      rw [t1.length, hj]
      exact hw
/-! the operators -/
theorem pe_add (h : Pe X ex δ a fun x => Pe X ex δ b fun y => ∃ i j, x = .int i ∧ y = .int j ∧ k (.int (i + j))) : Pe X ex δ (.BinOp a .Add b pos) k := pe_bo op_add (h.mono fun _ h => h.mono fun _ h => d2_I0 h)
theorem pe_sub (h : Pe X ex δ a fun x => Pe X ex δ b fun y => ∃ i j, x = .int i ∧ y = .int j ∧ k (.int (i - j))) : Pe X ex δ (.BinOp a .Sub b pos) k := pe_bo op_sub (h.mono fun _ h => h.mono fun _ h => d2_I0 h)
theorem pe_mul (h : Pe X ex δ a fun x => Pe X ex δ b fun y => ∃ i j, x = .int i ∧ y = .int j ∧ CMul i j ∧ k (.int (i * j))) : Pe X ex δ (.BinOp a .Mult b pos) k := pe_bo op_mul (h.mono fun _ h => h.mono fun _ h => d2_I h)
theorem pe_mod (h : Pe X ex δ a fun x => Pe X ex δ b fun y => ∃ i j, x = .int i ∧ y = .int j ∧ 0 < j ∧ k (.int (i % j))) : Pe X ex δ (.BinOp a .Mod b pos) k := pe_bo op_mod (h.mono fun _ h => h.mono fun _ h => d2_I h)
theorem pe_fdiv (h : Pe X ex δ a fun x => Pe X ex δ b fun y => ∃ i j, x = .int i ∧ y = .int j ∧ CDiv i j ∧ k (.int (i / j))) : Pe X ex δ (.BinOp a .FloorDiv b pos) k := pe_bo op_fdiv (h.mono fun _ h => h.mono fun _ h => d2_I h)
theorem pe_pow (h : Pe X ex δ a fun x => Pe X ex δ b fun y => ∃ i j, x = .int i ∧ y = .int j ∧ CPow i j ∧ k (.int (i ^ j.toNat))) : Pe X ex δ (.BinOp a .Pow b pos) k := pe_bo op_pow (h.mono fun _ h => h.mono fun _ h => d2_I h)
theorem pe_cat (h : Pe X ex δ a fun x => Pe X ex δ b fun y => ∃ xs ys, x = .list xs ∧ y = .list ys ∧ xs.length + ys.length ≤ 16777216 ∧ k (.list (xs ++ ys))) : Pe X ex δ (.BinOp a .Add b pos) k := pe_bo op_cat (h.mono fun _ h => h.mono fun _ h => d2_cat h)
theorem pe_catT (h : Pe X ex δ a fun x => Pe X ex δ b fun y => ∃ xs ys, x = .tuple xs ∧ y = .tuple ys ∧ xs.length + ys.length ≤ 16777216 ∧ k (.tuple (xs ++ ys))) : Pe X ex δ (.BinOp a .Add b pos) k := pe_bo op_catA (h.mono fun _ h => h.mono fun _ h => d2_catT h)
theorem pe_lt (h : Pe X ex δ a fun x => Pe X ex δ b fun y => ∃ i j, x = .int i ∧ y = .int j ∧ k (.bool (decide (i < j)))) : Pe X ex δ (.Compare a [.Lt] [b] pos) k := pe_cm op_lt (nomark _) (h.mono fun _ h => h.mono fun _ h => d2_B0 h)
theorem pe_le (h : Pe X ex δ a fun x => Pe X ex δ b fun y => ∃ i j, x = .int i ∧ y = .int j ∧ k (.bool (decide (i ≤ j)))) : Pe X ex δ (.Compare a [.LtE] [b] pos) k := pe_cm op_le (nomark _) (h.mono fun _ h => h.mono fun _ h => d2_B0 h)
theorem pe_gt (h : Pe X ex δ a fun x => Pe X ex δ b fun y => ∃ i j, x = .int i ∧ y = .int j ∧ k (.bool (decide (j < i)))) : Pe X ex δ (.Compare a [.Gt] [b] pos) k := pe_cm op_gt (nomark _) (h.mono fun _ h => h.mono fun _ h => d2_B0 h)
theorem pe_ge (h : Pe X ex δ a fun x => Pe X ex δ b fun y => ∃ i j, x = .int i ∧ y = .int j ∧ k (.bool (decide (j ≤ i)))) : Pe X ex δ (.Compare a [.GtE] [b] pos) k := pe_cm op_ge (nomark _) (h.mono fun _ h => h.mono fun _ h => d2_B0 h)
theorem pe_eq (hu : X.A.units + 64 < cLine) (h : Pe X ex δ a fun x => Pe X ex δ b fun y => SeqAt.shaped x = true ∧ SeqAt.shaped y = true ∧ k (.bool (PyData.eqv x y))) : Pe X ex δ (.Compare a [.Eq] [b] pos) k := pe_cm (op_eqD hu) (nomark _) (h.mono fun _ h => h.mono fun _ h => d2_eq h)
theorem pe_ne (hu : X.A.units + 64 < cLine) (h : Pe X ex δ a fun x => Pe X ex δ b fun y => SeqAt.shaped x = true ∧ SeqAt.shaped y = true ∧ k (.bool (!PyData.eqv x y))) : Pe X ex δ (.Compare a [.NotEq] [b] pos) k := pe_cm (op_neD hu) (nomark _) (h.mono fun _ h => h.mono fun _ h => d2_ne h)
section
variable {k : Bool → Prop}
theorem bc {p : D} {c : Bool} (e : p = .bool c) (h : k c) : ∃ c, p = .bool c ∧ k c := ⟨c, e, h⟩
theorem pt_lt (h : Pe X ex δ a fun x => Pe X ex δ b fun y => ∃ i j, x = .int i ∧ y = .int j ∧ k (decide (i < j))) : Pt X ex δ (.Compare a [.Lt] [b] pos) k := pt_cm op_lt (nomark _) (h.mono fun _ h => h.mono fun _ ⟨i, j, e1, e2, q⟩ => d2_B0 ⟨i, j, e1, e2, bc rfl q⟩)
theorem pt_le (h : Pe X ex δ a fun x => Pe X ex δ b fun y => ∃ i j, x = .int i ∧ y = .int j ∧ k (decide (i ≤ j))) : Pt X ex δ (.Compare a [.LtE] [b] pos) k := pt_cm op_le (nomark _) (h.mono fun _ h => h.mono fun _ ⟨i, j, e1, e2, q⟩ => d2_B0 ⟨i, j, e1, e2, bc rfl q⟩)
theorem pt_gt (h : Pe X ex δ a fun x => Pe X ex δ b fun y => ∃ i j, x = .int i ∧ y = .int j ∧ k (decide (j < i))) : Pt X ex δ (.Compare a [.Gt] [b] pos) k := pt_cm op_gt (nomark _) (h.mono fun _ h => h.mono fun _ ⟨i, j, e1, e2, q⟩ => d2_B0 ⟨i, j, e1, e2, bc rfl q⟩)
theorem pt_ge (h : Pe X ex δ a fun x => Pe X ex δ b fun y => ∃ i j, x = .int i ∧ y = .int j ∧ k (decide (j ≤ i))) : Pt X ex δ (.Compare a [.GtE] [b] pos) k := pt_cm op_ge (nomark _) (h.mono fun _ h => h.mono fun _ ⟨i, j, e1, e2, q⟩ => d2_B0 ⟨i, j, e1, e2, bc rfl q⟩)
theorem pt_eq (hu : X.A.units + 64 < cLine) (h : Pe X ex δ a fun x => Pe X ex δ b fun y => SeqAt.shaped x = true ∧ SeqAt.shaped y = true ∧ k (PyData.eqv x y)) : Pt X ex δ (.Compare a [.Eq] [b] pos) k := pt_cm (op_eqD hu) (nomark _) (h.mono fun _ h => h.mono fun _ ⟨e1, e2, q⟩ => d2_eq ⟨e1, e2, bc rfl q⟩)
theorem pt_ne (hu : X.A.units + 64 < cLine) (h : Pe X ex δ a fun x => Pe X ex δ b fun y => SeqAt.shaped x = true ∧ SeqAt.shaped y = true ∧ k (!PyData.eqv x y)) : Pt X ex δ (.Compare a [.NotEq] [b] pos) k := pt_cm (op_neD hu) (nomark _) (h.mono fun _ h => h.mono fun _ ⟨e1, e2, q⟩ => d2_ne ⟨e1, e2, bc rfl q⟩)
end
theorem pe_ixT (h : Pe X ex δ a fun x => Pe X ex δ b fun y => ∃ xs n d, x = .tuple xs ∧ y = .int n ∧ atI xs n = some d ∧ k d) (hs : PlainIx b := by exact fun _ _ => rfl) : Pe X ex δ (.Subscript a b pos) k :=
  fun F σ H en tk => we_of (pe_ix ix_tup pe_self pe_self hs) (bin2 (h.mono fun _ h => h.mono fun _ h => d2_ixT h) en tk)
theorem pe_ixL (h : Pe X ex δ a fun x => Pe X ex δ b fun y => ∃ xs n d, x = .list xs ∧ y = .int n ∧ atI xs n = some d ∧ k d) (hs : PlainIx b := by exact fun _ _ => rfl) : Pe X ex δ (.Subscript a b pos) k :=
  fun F σ H en tk => we_of (pe_ix ix_list pe_self pe_self hs) (bin2 (h.mono fun _ h => h.mono fun _ h => d2_ixL h) en tk)
/-- kind[0], kind[1]: a written place of a tuple -/
theorem pe_at {n : Int} {j : Nat} {p2 : Pos} (h : Pe X ex δ a fun x => ∃ xs d, x = .tuple xs ∧ atI xs n = some d ∧ k d) : Pe X ex δ (.Subscript a (.Constant (.int n) j p2) pos) k :=
  pe_ixT (h.mono fun _ ⟨xs, d, e1, e2, q⟩ => pe_i ⟨xs, n, d, e1, rfl, e2, q⟩)
theorem pe_neg (h : Pe X ex δ a fun x => ∃ i, x = .int i ∧ k (.int (-i))) : Pe X ex δ (.UnaryOp .USub a pos) k := fun F σ H en tk =>
  we_of (L2.pe_un un_neg pe_self) (we_mono (h F σ H en tk) fun v H1 ⟨en1, k1, d1, t1, i, e1, q⟩ => by
    subst e1
    cases t1
    exact ⟨i, rfl, en1, k1, _, .int _, q⟩)

/-! ### tests -/
theorem pt_e {k : Bool → Prop} (h : Pe X ex δ e fun d => ∃ b, d = .bool b ∧ k b) (he : ∀ whole, isTrue e X.env whole = (do let v ← whole; standAt e.pos; holding [v] (truthy v)) := by intro _; rfl) : Pt X ex δ e k := fun F σ H en tk =>
  wt_of (pt_val pe_self he) (we_mono (h F σ H en tk) fun v H1 ⟨en1, k1, d1, t1, i, e1, q⟩ => by
    subst e1
    cases t1
    exact ⟨i, rfl, en1, k1, q⟩)
theorem pt_not {k : Bool → Prop} (h : Pt X ex δ a fun c => k (!c)) : Pt X ex δ (.UnaryOp .Not a pos) k := fun F σ H en tk =>
  wt_of (L2.pt_not pt_self) (wt_mono (h F σ H en tk) fun v H1 q => q)
theorem pt_w {k : Bool → Prop} (h : Pw X ex δ e k) : Pt X ex δ e k := fun F σ H en tk => wt_of (PW.pt pw_self) (h F σ H en tk)
theorem pw_and1 {k : Bool → Prop} (h : Pt X ex δ a k) : Pw X ex δ (.BoolOp .And [a] pos) k := fun F σ H en tk => ww_of (L2.pw_and1 pt_self) (h F σ H en tk)
theorem pw_or1 {k : Bool → Prop} (h : Pt X ex δ a k) : Pw X ex δ (.BoolOp .Or [a] pos) k := fun F σ H en tk => ww_of (L2.pw_or1 pt_self) (h F σ H en tk)
theorem pw_and {k : Bool → Prop} (h : Pt X ex δ a fun c => if c = true then Pw X ex δ (.BoolOp .And (b :: rest) pos) k else k false) : Pw X ex δ (.BoolOp .And (a :: b :: rest) pos) k := fun F σ H en tk =>
  ww_of (L2.pw_and pt_self pw_self) (wt_mono (h F σ H en tk) fun c H1 ⟨en1, k1, q⟩ => by
    cases c with
    | true => exact ww_mono (q F σ H1 en1 tk) fun b H2 ⟨en2, k2, q2⟩ => ⟨en2, k1.trans k2, q2⟩
    | false => exact ⟨en1, k1, q⟩)
theorem pw_or {k : Bool → Prop} (h : Pt X ex δ a fun c => if c = true then k true else Pw X ex δ (.BoolOp .Or (b :: rest) pos) k) : Pw X ex δ (.BoolOp .Or (a :: b :: rest) pos) k := fun F σ H en tk =>
  ww_of (L2.pw_or pt_self pw_self) (wt_mono (h F σ H en tk) fun c H1 ⟨en1, k1, q⟩ => by
    cases c with
    | false => exact ww_mono (q F σ H1 en1 tk) fun b H2 ⟨en2, k2, q2⟩ => ⟨en2, k1.trans k2, q2⟩
    | true => exact ⟨en1, k1, q⟩)
theorem pe_ife (h : Pt X ex δ c fun t => if t = true then Pe X ex δ a k else Pe X ex δ b k) : Pe X ex δ (.IfExp c a b pos) k := fun F σ H en tk =>
  we_of (pe_ifExp pt_self pe_self pe_self) (wt_mono (h F σ H en tk) fun t H1 ⟨en1, k1, q⟩ => by
    cases t with
    | true => exact we_mono (q F σ H1 en1 tk) fun b H2 ⟨en2, k2, q2⟩ => ⟨en2, k1.trans k2, q2⟩
    | false => exact we_mono (q F σ H1 en1 tk) fun b H2 ⟨en2, k2, q2⟩ => ⟨en2, k1.trans k2, q2⟩)
/-- and, or, not as values (of truth values) -/
theorem pe_1 {op : BoolOp} (h : Pe X ex δ a k) : Pe X ex δ (.BoolOp op [a] pos) k := fun F σ H en tk => we_of (pe_one pe_self) (h F σ H en tk)
theorem pe_and (h : Pe X ex δ a fun x => ∃ c, x = .bool c ∧ if c = true then Pe X ex δ (.BoolOp .And (b :: rest) pos) k else k (.bool false)) : Pe X ex δ (.BoolOp .And (a :: b :: rest) pos) k := fun F σ H en tk =>
  we_of (L2.pe_and pe_self pe_self) (we_mono (h F σ H en tk) fun v H1 ⟨en1, k1, d1, t1, c, e1, q⟩ => by
    subst e1
    cases t1
    refine ⟨c, rfl, ?_⟩
    cases c with
    | true => exact we_mono (q F σ H1 en1 tk) fun b H2 ⟨en2, k2, q2⟩ => ⟨en2, k1.trans k2, q2⟩
    | false => exact ⟨en1, k1, _, .bl _, q⟩)
theorem pe_or (h : Pe X ex δ a fun x => ∃ c, x = .bool c ∧ if c = true then k (.bool true) else Pe X ex δ (.BoolOp .Or (b :: rest) pos) k) : Pe X ex δ (.BoolOp .Or (a :: b :: rest) pos) k := fun F σ H en tk =>
  we_of (L2.pe_or pe_self pe_self) (we_mono (h F σ H en tk) fun v H1 ⟨en1, k1, d1, t1, c, e1, q⟩ => by
    subst e1
    cases t1
    refine ⟨c, rfl, ?_⟩
    cases c with
    | false => exact we_mono (q F σ H1 en1 tk) fun b H2 ⟨en2, k2, q2⟩ => ⟨en2, k1.trans k2, q2⟩
    | true => exact ⟨en1, k1, _, .bl _, q⟩)
theorem pe_not (h : Pe X ex δ a fun x => ∃ c, x = .bool c ∧ k (.bool (!c))) : Pe X ex δ (.UnaryOp .Not a pos) k := fun F σ H en tk =>
  we_of (L2.pe_not pe_self) (we_mono (h F σ H en tk) fun v H1 ⟨en1, k1, d1, t1, c, e1, q⟩ => by
    subst e1
    cases t1
    exact ⟨c, rfl, en1, k1, _, .bl _, q⟩)
/-- a or b where a is a whole number -/
theorem pe_orI (h : Pe X ex δ a fun x => ∃ n, x = .int n ∧ if n = 0 then Pe X ex δ b k else k (.int n)) : Pe X ex δ (.BoolOp .Or [a, b] pos) k := fun F σ H en tk =>
  we_of (pe_orT pe_self (pe_one pe_self)) (we_mono (h F σ H en tk) fun v H1 ⟨en1, k1, d1, t1, n, e1, q⟩ => by
    subst e1
    cases t1
    refine ⟨n != 0, rfl, ?_⟩
    by_cases hn : n = 0
    · subst hn
      exact we_mono (q F σ H1 en1 tk) fun b H2 ⟨en2, k2, q2⟩ => ⟨en2, k1.trans k2, q2⟩
    · rw [if_neg hn] at q
      have e : (n != 0) = true := bne_iff_ne.mpr hn
      rw [e]
      exact ⟨en1, k1, _, .int n, q⟩)
/-- a < b < c and its like, over whole numbers -/
theorem pe_ch {op op' : CmpOp} {g g' : Int → Int → Bool} (ho : OpR X (compareOp op) (rI0 fun i j => .bl (g i j))) (ho' : OpR X (compareOp op') (rI0 fun i j => .bl (g' i j)))
    (h : Pe X ex δ a fun x => Pe X ex δ b fun y => ∃ i j, x = .int i ∧ y = .int j ∧ if g i j = true then Pe X ex δ c fun z => ∃ l, z = .int l ∧ k (.bool (g' j l)) else k (.bool false))
    (hm : lastMarks [op, op'] [b, c] = false := by with_unfolding_all rfl) : Pe X ex δ (.Compare a [op, op'] [b, c] pos) k := fun F σ H en tk =>
  we_of (pe_chain ho ho' pe_self pe_self pe_self hm) (we_mono (h F σ H en tk) fun v H1 ⟨en1, k1, d1, t1, q1⟩ => we_mono (q1 F σ H1 en1 tk) fun u H2 ⟨en2, k2, d2, t2, i, j, e1, e2, q⟩ => by
    subst e1; subst e2
    cases t1; cases t2
    refine ⟨i, j, rfl, rfl, g i j, rfl, ?_⟩
    cases hc : g i j with
    | true =>
      rw [hc] at q
      refine we_mono (q F σ H2 en2 tk) fun w H3 ⟨en3, k3, d3, t3, l, e3, q3⟩ => ?_
      subst e3
      cases t3
      exact ⟨j, l, rfl, rfl, en3, (k1.trans k2).trans k3, _, .bl _, q3⟩
    | false =>
      rw [hc] at q
      exact ⟨en2, k1.trans k2, _, .bl _, q⟩)
end
end Tl

set_option linter.all false
set_option maxRecDepth 100000
set_option maxHeartbeats 4000000
namespace Tl
open PySem PySem.Spec PyProof.Rows L2

section
variable {X : Cx} {ex : Value → Prop} {δ : List Slot} {e a b c : Expr} {es rest : List Expr} {pos p : Pos} {k : D → Prop} {x : Str} {i : Nat}
/-! ### arguments, displays -/
theorem SArgs.kp {K : PySem.W.Frag} {B M : List Addr} {H H' : Hp} (k : ∀ a o, mask M H a = some o → mask M H' a = some o) : ∀ {ss : List Slot} {vs : List V}, SArgs K B M H ss vs → SArgs K B M H' ss vs
  | _, _, .nil => .nil
  | s :: _, _, .cons ⟨h1, h2⟩ r => .cons ⟨h1, h2.kp (fun a xs e => by subst e; cases h1) k⟩ (SArgs.kp k r)
theorem sargs_d {K : PySem.W.Frag} {B M : List Addr} {H : Hp} : ∀ {ds : List D} {vs : List V}, SArgs K B M H (ds.map .d) vs → Tds (mask M H) vs ds
  | [], _, .nil => .nil
  | _ :: _, _, .cons ⟨_, h2⟩ r => by
    obtain ⟨w, e, t⟩ := h2
    cases e
    exact .cons t (sargs_d r)
theorem pa_nil {k : List Slot → Prop} (h : k []) : Pa X ex δ [] k := fun F σ H en tk => wa_of L2.pa_nil ⟨en, .refl _, [], .nil, h⟩
theorem pa_cons {k : List Slot → Prop} (h : Pe X ex δ e fun x => Pa X ex δ es fun ss => k (.d x :: ss)) (hs : starEach (e :: es) X.env = (false, eval e X.env) :: starEach es X.env := by rfl) : Pa X ex δ (e :: es) k := fun F σ H en tk =>
  wa_of (L2.pa_cons pe_self pa_self hs) (we_mono (h F σ H en tk) fun v H1 ⟨en1, k1, d1, t1, q1⟩ => wa_mono (q1 F σ H1 en1 tk) fun vs H2 ⟨en2, k2, ss, t2, q2⟩ =>
    ⟨en2, k1.trans k2, _, .cons (show Slot.ow (.d d1) = none ∧ SOk _ _ _ _ (.d d1) (some v) from ⟨rfl, v, rfl, t1.mono (kp_msk k2)⟩) t2, q2⟩)
theorem pa_raw {k : List Slot → Prop} (h : Pr X ex δ e fun x => Pa X ex δ es fun ss => k (.raw x :: ss)) (hs : starEach (e :: es) X.env = (false, eval e X.env) :: starEach es X.env := by rfl) : Pa X ex δ (e :: es) k := fun F σ H en tk =>
  wa_of (L2.pa_cons pe_self pa_self hs) (we_mono (h F σ H en tk) fun v H1 ⟨en1, k1, q1⟩ => wa_mono (q1 F σ H1 en1 tk) fun vs H2 ⟨en2, k2, ss, t2, q2⟩ =>
    ⟨en2, k1.trans k2, _, .cons (show Slot.ow (.raw v) = none ∧ SOk _ _ _ _ (.raw v) (some v) from ⟨rfl, rfl⟩) t2, q2⟩)
theorem pa_bag (i : Nat) {k : List Slot → Prop} {x : Str} {q : Addr} (hi : δ[i]? = some (.bag q)) (h : Pa X ex δ es fun ss => k (.bag q :: ss)) (hN : X.N[i]? = some x := by rfl) (hv : Vis X.env.scope x := by first | exact Or.inl rfl | exact Or.inr (Or.inl rfl) | exact Or.inr (Or.inr rfl))
    (hd : (x == ("__debug__" : Str)) = false := by decide) (hcd : (x == ("__classdict__" : Str)) = false := by decide) (hs : starEach (.Name x pos :: es) X.env = (false, eval (.Name x pos) X.env) :: starEach es X.env := by rfl) : Pa X ex δ (.Name x pos :: es) k := fun F σ H en tk => by
  obtain ⟨e1, m⟩ := en.bagAt hi
  exact wa_of (L2.pa_cons (pe_var hN hv hd hcd) pa_self hs) ⟨_, e1, wa_mono (h F σ H en tk) fun vs H2 ⟨en2, k2, ss, t2, q2⟩ => ⟨en2, k2, _, .cons (show Slot.ow (.bag q) = none ∧ SOk _ _ _ _ (.bag q) (some (.ref q)) from ⟨rfl, rfl, m⟩) t2, q2⟩⟩
theorem pa_scr (i : Nat) {k : List Slot → Prop} {x : Str} {ns : List Int} (hi : δ[i]? = some (.scr ns)) (h : Pa X ex δ es fun ss => k (.scr ns :: ss)) (hN : X.N[i]? = some x := by rfl) (hv : Vis X.env.scope x := by first | exact Or.inl rfl | exact Or.inr (Or.inl rfl) | exact Or.inr (Or.inr rfl))
    (hd : (x == ("__debug__" : Str)) = false := by decide) (hcd : (x == ("__classdict__" : Str)) = false := by decide) (hs : starEach (.Name x pos :: es) X.env = (false, eval (.Name x pos) X.env) :: starEach es X.env := by rfl) : Pa X ex δ (.Name x pos :: es) k := fun F σ H en tk => by
  obtain ⟨w, e1, m⟩ := en.scrAt hi
  refine wa_of (L2.pa_cons (pe_var hN hv hd hcd) pa_self hs) ⟨_, e1, wa_mono (h F σ H en tk) fun vs H2 ⟨en2, k2, ss, t2, q2⟩ => ⟨en2, k2, _, .cons (show Slot.ow (.scr ns) = none ∧ SOk _ _ _ _ (.scr ns) (some (.ref w)) from ⟨rfl, ?_⟩) t2, q2⟩⟩
  obtain ⟨w', e2, m2⟩ := en2.scrAt hi
  rw [e1] at e2
  cases e2
  exact ⟨w, rfl, m2⟩
theorem pe_tp {n : Nat} (h : Pa X ex δ es fun ss => ∃ ds, ss = ds.map .d ∧ ds.length ≤ 16777216 ∧ k (.tuple ds)) : Pe X ex δ (.Tuple es n pos) k := fun F σ H en tk =>
  we_of (pe_tup pa_self) (wa_mono (h F σ H en tk) fun vs H1 ⟨en1, k1, ss, t1, ds, e1, hz, q⟩ => by
    subst e1
    have t2 := sargs_d t1
    have z : vs.length ≤ sizeLine := by rw [t2.length, sizeLine_eq]; exact hz
    exact ⟨z, fun p hp => ⟨en1.same (same_upd hp), k1.trans (.of_same (same_upd hp)), _, .tup (mask_new en1.tracked hp) z (t2.mono (same_mask (same_upd hp))), q⟩⟩)
theorem pe_ls (h : Pa X ex δ es fun ss => ∃ ds, ss = ds.map .d ∧ ds.length ≤ 16777216 ∧ k (.list ds)) : Pe X ex δ (.List es pos) k := fun F σ H en tk =>
  we_of (pe_lst pa_self) (wa_mono (h F σ H en tk) fun vs H1 ⟨en1, k1, ss, t1, ds, e1, hz, q⟩ => by
    subst e1
    have t2 := sargs_d t1
    have z : vs.length ≤ sizeLine := by rw [t2.length, sizeLine_eq]; exact hz
    exact ⟨z, fun p hp => ⟨en1.same (same_upd hp), k1.trans (.of_same (same_upd hp)), _, .lst (mask_new en1.tracked hp) z (t2.mono (same_mask (same_upd hp))), q⟩⟩)

/-! ### built-in functions over data -/
def DL (r : List V → Hp → VK → Prop) (ds : List D) (k : D → Prop) : Prop := ∀ (M : List Addr) (H : Hp) (vs : List V), (∀ a ∈ M, H a ≠ none) → Tds (mask M H) vs ds →
  ∀ Q : VK, (∀ (z : V) (H' : Hp) (d : D), Same H H' → Td (mask M H') z d → k d → Q z H') → r vs H Q
theorem cb_end {r : List V → Hp → VK → Prop} {F : Fm} {σ : L2.St} {H : Hp} (h : Pa X ex δ es fun ss => ∃ ds, ss = ds.map .d ∧ DL r ds k) (en : En X.K F δ σ H) (tk : L2N.Takes X (Wx F ex)) :
    tCB r (WA X es) σ H fun v H' => En X.K F δ σ H' ∧ Kp F.B H H' ∧ ∃ d, Td (mask (msk F δ) H') v d ∧ k d :=
  wa_mono (h F σ H en tk) fun vs H1 ⟨en1, k1, ss, t1, ds, e1, q⟩ => by
    subst e1
    exact q (msk F δ) H1 vs en1.tracked (sargs_d t1) _ fun z H2 d s2 t2 q2 => ⟨en1.same s2, k1.trans (.of_same s2), d, t2, q2⟩
theorem pe_bi {id : String} {r : List V → Hp → VK → Prop} (hc : CallR X (.builtin id) r) (hm : X.mg x = none) (hv : bootBuiltins x = some (.builtin id)) (h : Pa X ex δ (e :: es) fun ss => ∃ ds, ss = ds.map .d ∧ DL r ds k) (hg : Gl X x := by rfl) (hn : x ≠ "__name__" := by decide) (hdb : (x == ("__debug__" : Str)) = false := by decide)
    (he : starEach (e :: es) X.env = (false, eval e X.env) :: starEach es X.env := by rfl) (hpl : (backTo pos (starEach es X.env)).any (·.1) = false := by rfl) : Pe X ex δ (.Call (.Name x p) (e :: es) [] pos) k := fun F σ H en tk =>
  we_of (pe_callB hc hg hm hv pa_self hn hdb he hpl) (cb_end h en tk)
theorem pe_bt {T : String} {r : List V → Hp → VK → Prop} (hc : CallR X (.type T) r) (hm : X.mg x = none) (hv : bootBuiltins x = some (.type T)) (h : Pa X ex δ (e :: es) fun ss => ∃ ds, ss = ds.map .d ∧ DL r ds k) (hg : Gl X x := by rfl) (hn : x ≠ "__name__" := by decide) (hdb : (x == ("__debug__" : Str)) = false := by decide)
    (he : starEach (e :: es) X.env = (false, eval e X.env) :: starEach es X.env := by rfl) (hpl : (backTo pos (starEach es X.env)).any (·.1) = false := by rfl) : Pe X ex δ (.Call (.Name x p) (e :: es) [] pos) k := fun F σ H en tk =>
  we_of (pe_callTy hc hg hm hv pa_self hn hdb he hpl) (cb_end h en tk)
theorem dl_len {ds : List D} (h : ∃ d, ds = [d] ∧ ∃ xs, (d = .list xs ∨ d = .tuple xs) ∧ k (.int xs.length)) : DL (fun xs H Q => ∃ p ys, xs = [.ref p] ∧ (SqL X.K H p ys ∨ SqT X.K H p ys) ∧ Q (.int ys.length) H) ds k := by
  obtain ⟨d, e1, xs, e2, q⟩ := h
  subst e1
  intro M H vs hM t Q hq
  cases t with
  | cons t r =>
    cases r
    rcases e2 with e2 | e2
    · subst e2
      cases t with
      | lst e1 z1 t1 => exact ⟨_, _, rfl, .inl (.of (mask_le _ _ e1)), hq _ _ _ (.refl H) (.int _) (by rw [t1.length]; exact q)⟩
    · subst e2
      cases t with
      | tup e1 z1 t1 => exact ⟨_, _, rfl, .inr (.of (mask_le _ _ e1)), hq _ _ _ (.refl H) (.int _) (by rw [t1.length]; exact q)⟩
/-- len of a list, a tuple -/
theorem pe_len (hm : X.mg "len" = none) (h : Pe X ex δ e fun d => ∃ xs, (d = .list xs ∨ d = .tuple xs) ∧ k (.int xs.length)) (hg : Gl X "len" := by rfl)
    (he : starEach [e] X.env = (false, eval e X.env) :: starEach [] X.env := by rfl) (hpl : (backTo pos (starEach [] X.env)).any (·.1) = false := by rfl) : Pe X ex δ (.Call (.Name "len" p) [e] [] pos) k :=
  pe_bi call_len_seq hm boot_len (pa_cons (h.mono fun d q => pa_nil ⟨[d], rfl, dl_len ⟨d, rfl, q⟩⟩) he) hg (by decide) (by decide) he hpl
theorem dl_2i {g : Int → Int → Int} {ds : List D} (h : ∃ i j, ds = [.int i, .int j] ∧ k (.int (g i j))) : DL (fun xs H Q => ∃ i j, xs = [.int i, .int j] ∧ Q (.int (g i j)) H) ds k := by
  obtain ⟨i, j, e1, q⟩ := h
  subst e1
  intro M H vs hM t Q hq
  cases t with
  | cons t r =>
    cases r with
    | cons t' r =>
      cases r
      cases t
      cases t'
      exact ⟨i, j, rfl, hq _ _ _ (.refl H) (.int _) q⟩
theorem pe_max2 (hc : X.calm = true) (hm : X.mg "max" = none) (h : Pe X ex δ a fun x => Pe X ex δ b fun y => ∃ i j, x = .int i ∧ y = .int j ∧ k (.int (max i j))) (hg : Gl X "max" := by rfl)
    (he : starEach [a, b] X.env = (false, eval a X.env) :: starEach [b] X.env := by rfl) (he2 : starEach [b] X.env = (false, eval b X.env) :: starEach [] X.env := by rfl) (hpl : (backTo pos (starEach [b] X.env)).any (·.1) = false := by rfl) : Pe X ex δ (.Call (.Name "max" p) [a, b] [] pos) k :=
  pe_bi (call_max2 hc) hm (by decide +kernel) (pa_cons (h.mono fun d q => pa_cons (q.mono fun d' ⟨i, j, e1, e2, q⟩ => pa_nil ⟨[d, d'], rfl, dl_2i ⟨i, j, by rw [e1, e2], by
    have e : (if j > i then j else i) = max i j := by
      by_cases z : j > i
      · rw [if_pos z, Int.max_eq_right (by omega)]
      · rw [if_neg z, Int.max_eq_left (by omega)]
    rw [e]
    exact q⟩⟩) he2) he) hg (by decide) (by decide) he hpl
theorem pe_min2 (hc : X.calm = true) (hm : X.mg "min" = none) (h : Pe X ex δ a fun x => Pe X ex δ b fun y => ∃ i j, x = .int i ∧ y = .int j ∧ k (.int (min i j))) (hg : Gl X "min" := by rfl)
    (he : starEach [a, b] X.env = (false, eval a X.env) :: starEach [b] X.env := by rfl) (he2 : starEach [b] X.env = (false, eval b X.env) :: starEach [] X.env := by rfl) (hpl : (backTo pos (starEach [b] X.env)).any (·.1) = false := by rfl) : Pe X ex δ (.Call (.Name "min" p) [a, b] [] pos) k :=
  pe_bi (call_min2 hc) hm (by decide +kernel) (pa_cons (h.mono fun d q => pa_cons (q.mono fun d' ⟨i, j, e1, e2, q⟩ => pa_nil ⟨[d, d'], rfl, dl_2i ⟨i, j, by rw [e1, e2], by
    have e : (if j < i then j else i) = min i j := by
      by_cases z : j < i
      · rw [if_pos z, Int.min_eq_right (by omega)]
      · rw [if_neg z, Int.min_eq_left (by omega)]
    rw [e]
    exact q⟩⟩) he2) he) hg (by decide) (by decide) he hpl
theorem ints_td {H : Hp} {v : V} {ns : List Int} (t : Td H v (.list (ns.map .int))) : ∃ a, v = .ref a ∧ H a = some (.lst (ns.map V.int)) := by
  cases t with
  | lst e z t => exact ⟨_, rfl, by rw [← t.ints]; exact e⟩
theorem bools_td {H : Hp} {v : V} {ns : List Bool} (t : Td H v (.list (ns.map .bool))) : ∃ a, v = .ref a ∧ H a = some (.lst (ns.map V.bl)) := by
  cases t with
  | lst e z t => exact ⟨_, rfl, by rw [← t.bools]; exact e⟩
theorem pe_sum (hc : X.calm = true) (hm : X.mg "sum" = none) (h : Pe X ex δ e fun d => ∃ ns : List Int, d = .list (ns.map .int) ∧ k (.int ns.sum)) (hg : Gl X "sum" := by rfl)
    (he : starEach [e] X.env = (false, eval e X.env) :: starEach [] X.env := by rfl) (hpl : (backTo pos (starEach [] X.env)).any (·.1) = false := by rfl) : Pe X ex δ (.Call (.Name "sum" p) [e] [] pos) k :=
  pe_bi (cr_sum hc) hm (by decide +kernel) (pa_cons (h.mono fun d ⟨ns, e1, q⟩ => pa_nil ⟨[d], rfl, fun M H vs hM t Q hq => by
    subst e1
    cases t with
    | cons t r =>
      cases r
      obtain ⟨a, e2, e3⟩ := ints_td t
      subst e2
      exact ⟨a, ns, rfl, .of (mask_le _ _ e3), hq _ _ _ (.refl H) (.int _) q⟩⟩) he) hg (by decide) (by decide) he hpl
theorem pe_maxL (hc : X.calm = true) (hm : X.mg "max" = none) (h : Pe X ex δ e fun d => ∃ ns : List Int, d = .list (ns.map .int) ∧ ns ≠ [] ∧ ∀ m, m ∈ ns → (∀ y ∈ ns, y ≤ m) → k (.int m)) (hg : Gl X "max" := by rfl)
    (he : starEach [e] X.env = (false, eval e X.env) :: starEach [] X.env := by rfl) (hpl : (backTo pos (starEach [] X.env)).any (·.1) = false := by rfl) : Pe X ex δ (.Call (.Name "max" p) [e] [] pos) k :=
  pe_bi (cr_max hc) hm (by decide +kernel) (pa_cons (h.mono fun d ⟨ns, e1, ne, q⟩ => pa_nil ⟨[d], rfl, fun M H vs hM t Q hq => by
    subst e1
    cases t with
    | cons t r =>
      cases r
      obtain ⟨a, e2, e3⟩ := ints_td t
      subst e2
      exact ⟨a, ns, rfl, .of (mask_le _ _ e3), List.length_pos_iff.mpr ne, fun m h1 h2 => hq _ _ _ (.refl H) (.int _) (q m h1 h2)⟩⟩) he) hg (by decide) (by decide) he hpl
theorem pe_minL (hc : X.calm = true) (hm : X.mg "min" = none) (h : Pe X ex δ e fun d => ∃ ns : List Int, d = .list (ns.map .int) ∧ ns ≠ [] ∧ ∀ m, m ∈ ns → (∀ y ∈ ns, m ≤ y) → k (.int m)) (hg : Gl X "min" := by rfl)
    (he : starEach [e] X.env = (false, eval e X.env) :: starEach [] X.env := by rfl) (hpl : (backTo pos (starEach [] X.env)).any (·.1) = false := by rfl) : Pe X ex δ (.Call (.Name "min" p) [e] [] pos) k :=
  pe_bi (cr_min hc) hm (by decide +kernel) (pa_cons (h.mono fun d ⟨ns, e1, ne, q⟩ => pa_nil ⟨[d], rfl, fun M H vs hM t Q hq => by
    subst e1
    cases t with
    | cons t r =>
      cases r
      obtain ⟨a, e2, e3⟩ := ints_td t
      subst e2
      exact ⟨a, ns, rfl, .of (mask_le _ _ e3), List.length_pos_iff.mpr ne, fun m h1 h2 => hq _ _ _ (.refl H) (.int _) (q m h1 h2)⟩⟩) he) hg (by decide) (by decide) he hpl
theorem pe_all (hc : X.calm = true) (hm : X.mg "all" = none) (h : Pe X ex δ e fun d => ∃ ns : List Bool, d = .list (ns.map .bool) ∧ k (.bool (ns.all id))) (hg : Gl X "all" := by rfl)
    (he : starEach [e] X.env = (false, eval e X.env) :: starEach [] X.env := by rfl) (hpl : (backTo pos (starEach [] X.env)).any (·.1) = false := by rfl) : Pe X ex δ (.Call (.Name "all" p) [e] [] pos) k :=
  pe_bi (cr_all hc) hm (by decide +kernel) (pa_cons (h.mono fun d ⟨ns, e1, q⟩ => pa_nil ⟨[d], rfl, fun M H vs hM t Q hq => by
    subst e1
    cases t with
    | cons t r =>
      cases r
      obtain ⟨a, e2, e3⟩ := bools_td t
      subst e2
      exact ⟨a, ns, rfl, .of (mask_le _ _ e3), hq _ _ _ (.refl H) (.bl _) q⟩⟩) he) hg (by decide) (by decide) he hpl
/-- int(a truth value) -/
theorem pe_int (hm : X.mg "int" = none) (h : Pe X ex δ e fun d => ∃ c : Bool, d = .bool c ∧ k (.int (if c then 1 else 0))) (hg : Gl X "int" := by rfl)
    (he : starEach [e] X.env = (false, eval e X.env) :: starEach [] X.env := by rfl) (hpl : (backTo pos (starEach [] X.env)).any (·.1) = false := by rfl) : Pe X ex δ (.Call (.Name "int" p) [e] [] pos) k :=
  pe_bt call_int1 hm boot_int (pa_cons (h.mono fun d ⟨c, e1, q⟩ => pa_nil ⟨[d], rfl, fun M H vs hM t Q hq => by
    subst e1
    cases t with
    | cons t r =>
      cases r
      cases t
      exact .inr ⟨c, rfl, hq _ _ _ (.refl H) (.int _) q⟩⟩) he) hg (by decide) (by decide) he hpl
/-- tuple(a list) -/
theorem pe_tupOf (hm : X.mg "tuple" = none) (h : Pe X ex δ e fun d => ∃ ds, d = .list ds ∧ k (.tuple ds)) (hg : Gl X "tuple" := by rfl)
    (he : starEach [e] X.env = (false, eval e X.env) :: starEach [] X.env := by rfl) (hpl : (backTo pos (starEach [] X.env)).any (·.1) = false := by rfl) : Pe X ex δ (.Call (.Name "tuple" p) [e] [] pos) k :=
  pe_bt call_tuple_of hm (by decide +kernel) (pa_cons (h.mono fun d ⟨ds, e1, q⟩ => pa_nil ⟨[d], rfl, fun M H vs hM t Q hq => by
    subst e1
    cases t with
    | cons t r =>
      cases r
      cases t with
      | lst e z t => exact ⟨_, _, rfl, .inl ⟨.of (mask_le _ _ e), fun l hl => hq _ _ _ (same_upd hl) (.tup (mask_new hM hl) z (t.mono (same_mask (same_upd hl)))) q⟩⟩⟩) he) hg (by decide) (by decide) he hpl
/-- list(a list or a tuple) -/
theorem pe_lstOf (hm : X.mg "list" = none) (h : Pe X ex δ e fun d => ∃ ds, (d = .list ds ∨ d = .tuple ds) ∧ k (.list ds)) (hg : Gl X "list" := by rfl)
    (he : starEach [e] X.env = (false, eval e X.env) :: starEach [] X.env := by rfl) (hpl : (backTo pos (starEach [] X.env)).any (·.1) = false := by rfl) : Pe X ex δ (.Call (.Name "list" p) [e] [] pos) k :=
  pe_bt call_list_of hm (by decide +kernel) (pa_cons (h.mono fun d ⟨ds, e1, q⟩ => pa_nil ⟨[d], rfl, fun M H vs hM t Q hq => by
    cases t with
    | cons t r =>
      cases r
      rcases e1 with e1 | e1
      · subst e1
        cases t with
        | lst e z t => exact ⟨_, _, rfl, .inl (.of (mask_le _ _ e)), fun l hl => hq _ _ _ (same_upd hl) (.lst (mask_new hM hl) z (t.mono (same_mask (same_upd hl)))) q⟩
      · subst e1
        cases t with
        | tup e z t => exact ⟨_, _, rfl, .inr (.of (mask_le _ _ e)), fun l hl => hq _ _ _ (same_upd hl) (.lst (mask_new hM hl) z (t.mono (same_mask (same_upd hl)))) q⟩⟩) he) hg (by decide) (by decide) he hpl
/-! ### isinstance -/
def tyN : D → String
  | .none => "NoneType" | .bool _ => "bool" | .int _ => "int" | .str _ => "str" | .list _ => "list" | .tuple _ => "tuple" | .dict _ => "dict"
theorem td_ty {K : PySem.W.Frag} {H : Hp} {v : V} {d : D} (t : Td H v d) : TyX K H v (.type (tyN d)) := by
  cases t with
  | non => exact .base .non
  | bl b => exact .base (.bl b)
  | int b => exact .base (.int b)
  | str b => exact .base (.str b)
  | lst e _ _ => exact .base (.lst e)
  | tup e _ _ => exact .base (.tup e)
theorem kit_int (d : D) : kitB (tyN d) "int" = some (match d with | .int _ => true | .bool _ => true | _ => false) := by
  cases d <;> (simp only [tyN]; decide +kernel)
theorem kit_bool (d : D) : kitB (tyN d) "bool" = some (match d with | .bool _ => true | _ => false) := by
  cases d <;> (simp only [tyN]; decide +kernel)
theorem kit_tuple (d : D) : kitB (tyN d) "tuple" = some (match d with | .tuple _ => true | _ => false) := by
  cases d <;> (simp only [tyN]; decide +kernel)
theorem kit_list (d : D) : kitB (tyN d) "list" = some (match d with | .list _ => true | _ => false) := by
  cases d <;> (simp only [tyN]; decide +kernel)
theorem kit_str (d : D) : kitB (tyN d) "str" = some (match d with | .str _ => true | _ => false) := by
  cases d <;> (simp only [tyN]; decide +kernel)
theorem pe_isi {T : String} {g : D → Bool} {y : Str} {p2 : Pos} (kt : ∀ d, kitB (tyN d) T = some (g d)) (hv : bootBuiltins y = some (.type T)) (hmi : X.mg "isinstance" = none) (hmT : X.mg y = none) (h : Pe X ex δ e fun d => k (.bool (g d))) (hg : Gl X "isinstance" := by rfl) (hgT : Gl X y := by rfl)
    (hn : y ≠ "__name__" := by decide) (hd : (y == ("__debug__" : Str)) = false := by decide)
    (he : starEach [e, .Name y p2] X.env = (false, eval e X.env) :: starEach [.Name y p2] X.env := by rfl) (he2 : starEach [.Name y p2] X.env = (false, eval (.Name y p2) X.env) :: starEach [] X.env := by rfl) (hpl : (backTo pos (starEach [.Name y p2] X.env)).any (·.1) = false := by rfl) : Pe X ex δ (.Call (.Name "isinstance" p) [e, .Name y p2] [] pos) k := fun F σ H en tk =>
  we_of (pe_callB call_isi hg hmi (by decide +kernel) pa_self (by decide) (by decide) he hpl) (wa_of (L2.pa_cons pe_self (L2.pa_cons pe_self L2.pa_nil he2) he)
    (we_mono (h F σ H en tk) fun v H1 ⟨en1, k1, d, t, q⟩ => we_mono (pr_ty (k := fun v => v = .ty T) hmT hv rfl hgT hn hd F σ H1 en1 tk) fun u H2 ⟨en2, k2, eu⟩ => by
      subst eu
      exact ⟨v, .ty T, .type (tyN d), .type T, g d, rfl, .ty T, td_ty ((t.mono (kp_msk k2)).mono mask_le), kit_ty (kt d), en2, k1.trans k2, _, .bl _, q⟩))

/-! ### in, not in (flat things in a list or tuple) -/
def flatD : D → Bool
  | .none => true | .bool _ => true | .int _ => true | .str _ => true | _ => false
theorem td_flat {H : Hp} {v : V} {d : D} (t : Td H v d) (f : flatD d = true) : flatV v = true := by
  cases t <;> first | rfl | cases f
theorem td_eqv {H : Hp} {v u : V} {d d' : D} (t : Td H v d) (t' : Td H u d') (f : flatD d = true) (f' : flatD d' = true) : eqV v u = PyData.eqv d d' := by
  cases t with
  | lst _ _ _ => cases f
  | tup _ _ _ => cases f
  | _ =>
    cases t' with
    | lst _ _ _ => cases f'
    | tup _ _ _ => cases f'
    | _ => first
      | rfl
      | (simp [eqV, PyData.eqv]; done)
theorem tds_flat {H : Hp} : ∀ {vs : List V} {ds : List D}, Tds H vs ds → ds.all flatD = true → vs.all flatV = true
  | _, _, .nil, _ => rfl
  | _, _, .cons t r, f => by
    rw [List.all_cons, Bool.and_eq_true] at f ⊢
    exact ⟨td_flat t f.1, tds_flat r f.2⟩
def inD (x : D) (xs : List D) : Bool := xs.any fun y => PyData.eqv y x
theorem tds_in {H : Hp} {v : V} {d : D} (t : Td H v d) (f : flatD d = true) : ∀ {vs : List V} {ds : List D}, Tds H vs ds → ds.all flatD = true → inV v vs = inD d ds
  | _, _, .nil, _ => rfl
  | _, _, .cons t' r, g => by
    rw [List.all_cons, Bool.and_eq_true] at g
    have e1 := tds_in t f r g.2
    have e2 := td_eqv t' t g.1 f
    show (eqV _ v || inV v _) = (PyData.eqv _ d || inD d _)
    rw [e1, e2]
theorem d2_in {neg : Bool} {x y : D} (h : ∃ xs, (y = .list xs ∨ y = .tuple xs) ∧ flatD x = true ∧ xs.all flatD = true ∧ k (.bool (if neg then !inD x xs else inD x xs))) : D2 (rIn X.K neg) x y k := by
  obtain ⟨xs, e1, f1, f2, q⟩ := h
  intro M H v u hM t1 t2 Q hq
  rcases e1 with e1 | e1
  · subst e1
    cases t2 with
    | @lst a2 ws _ e2 z2 t2 =>
      refine ⟨_, _, rfl, .inl (.of (mask_le _ _ e2)), td_flat t1 f1, tds_flat t2 f2, hq _ _ _ (.refl H) (.bl _) ?_⟩
      rw [tds_in t1 f1 t2 f2]
      exact q
  · subst e1
    cases t2 with
    | @tup a2 ws _ e2 z2 t2 =>
      refine ⟨_, _, rfl, .inr (.of (mask_le _ _ e2)), td_flat t1 f1, tds_flat t2 f2, hq _ _ _ (.refl H) (.bl _) ?_⟩
      rw [tds_in t1 f1 t2 f2]
      exact q
theorem pe_in (hm : behindInMarks .In b = false) (h : Pe X ex δ a fun x => Pe X ex δ b fun y => ∃ xs, (y = .list xs ∨ y = .tuple xs) ∧ flatD x = true ∧ xs.all flatD = true ∧ k (.bool (inD x xs))) : Pe X ex δ (.Compare a [.In] [b] pos) k :=
  pe_cm op_in_seq hm (h.mono fun _ h => h.mono fun _ h => d2_in h)
theorem pe_nin (hm : behindInMarks .NotIn b = false) (h : Pe X ex δ a fun x => Pe X ex δ b fun y => ∃ xs, (y = .list xs ∨ y = .tuple xs) ∧ flatD x = true ∧ xs.all flatD = true ∧ k (.bool (!inD x xs))) : Pe X ex δ (.Compare a [.NotIn] [b] pos) k :=
  pe_cm op_notIn_seq hm (h.mono fun _ h => h.mono fun _ h => d2_in h)
theorem pt_in {k : Bool → Prop} (hm : behindInMarks .In b = false) (h : Pe X ex δ a fun x => Pe X ex δ b fun y => ∃ xs, (y = .list xs ∨ y = .tuple xs) ∧ flatD x = true ∧ xs.all flatD = true ∧ k (inD x xs)) : Pt X ex δ (.Compare a [.In] [b] pos) k :=
  pt_cm op_in_seq hm (h.mono fun _ h => h.mono fun _ ⟨xs, e1, e2, e3, q⟩ => d2_in ⟨xs, e1, e2, e3, bc rfl q⟩)
theorem pt_nin {k : Bool → Prop} (hm : behindInMarks .NotIn b = false) (h : Pe X ex δ a fun x => Pe X ex δ b fun y => ∃ xs, (y = .list xs ∨ y = .tuple xs) ∧ flatD x = true ∧ xs.all flatD = true ∧ k (!inD x xs)) : Pt X ex δ (.Compare a [.NotIn] [b] pos) k :=
  pt_cm op_notIn_seq hm (h.mono fun _ h => h.mono fun _ ⟨xs, e1, e2, e3, q⟩ => d2_in ⟨xs, e1, e2, e3, bc rfl q⟩)
end
end Tl

set_option linter.all false
set_option maxRecDepth 100000
set_option maxHeartbeats 4000000
namespace Tl
open PySem PySem.Spec PyProof.Rows L2

/-! ### a def's contract over data: from the arguments, what is wanted of the value, what of an error's class -/
abbrev Ct := List Slot → (D → Prop) → (Value → Prop) → Prop
def spS (K : PySem.W.Frag) (S : Ct) : Sp := fun vs H Q E => ∃ (B Z : List Addr) (ss : List Slot) (k : D → Prop) (ex : Value → Prop), Glo B Z H ∧ (∀ a ∈ Z, a ∉ B) ∧ SArgs K B (B ++ Z) H ss vs ∧ S ss k ex ∧
  (∀ d, k d → ∀ v H', Kp B H H' → Glo B Z H' → Td (mask (B ++ Z) H') v d → Q v H') ∧ (∀ c, ex c → ∀ H', Kp B H H' → Glo B Z H' → E c none H')
section
variable {X : Cx} {ex : Value → Prop} {δ : List Slot} {e a b c : Expr} {es rest : List Expr} {pos p : Pos} {k : D → Prop} {x : Str} {i : Nat}
theorem Glo.assoc {A B C : List Addr} {H : Hp} (g : Glo A (B ++ C) H) : Glo A (B ++ C) H := g
theorem Wx.of {F : Fm} {σ : L2.St} {H H' : Hp} {K : PySem.W.Frag} (en : En K F δ σ H) (kp : Kp F.B H H') (g : Glo F.B (owns δ ++ F.Z) H') {c : Value} (h : ex c) (σ' : L2.St) : Wx F ex c none σ' H' :=
  ⟨rfl, en.base.trans (kp.mono en.bm), g.sub fun a m => List.mem_append_right _ m, h⟩
/-- an own def is called -/
theorem fn_end {S : Ct} {F : Fm} {σ : L2.St} {H H1 : Hp} {vs : List V} {ss : List Slot} (en0 : En X.K F δ σ H) (k0 : Kp F.B H H1) (en : En X.K F δ σ H1) (ha : SArgs X.K F.B (msk F δ) H1 ss vs) (hS : S ss k ex) :
    spS X.K S vs H1 (fun v H' => En X.K F δ σ H' ∧ Kp F.B H H' ∧ ∃ d, Td (mask (msk F δ) H') v d ∧ k d) (fun cls d H' => ∃ σ', Wx F ex cls d σ' H') :=
  ⟨F.B, owns δ ++ F.Z, ss, k, ex, en.glo, fun a m z => (List.mem_append.mp m).elim (fun m => en.dj a m (List.mem_append_left _ z)) (fun m => en.zm a m (en.bm a z)), ha, hS, fun d hd v H' kp g t => ⟨en.step kp g, k0.trans kp, d, t, hd⟩, fun c hc H' kp g => ⟨σ, Wx.of en kp g hc σ⟩⟩
theorem passesW {F : Fm} (tk : L2N.Takes X (Wx F ex)) : Passes (L2N.CX X.prog X.w) X (fun cls d H' => ∃ σ', Wx F ex cls d σ' H') := L2N.passes_call tk fun cls d σ H ⟨_, h⟩ => h
theorem pe_fn {S : Ct} {n : Nat} {f : Addr} {fd : FuncData} {ps : List Str} (G : FnOk X.prog X.w X.K X.mg X.base (L2N.CX X.prog X.w) n f fd ps (spS X.K S)) (hr : Room n X.A) (hm : X.mg x = some (.ref f)) (hk : PySem.W.keepIn X.K (.ref f) = true) (hb : Binds X.K fd ps [])
    (h : Pa X ex δ (e :: es) fun ss => S ss k ex) (hg : Gl X x := by rfl) (hdb : (x == ("__debug__" : Str)) = false := by decide) (he : starEach (e :: es) X.env = (false, eval e X.env) :: starEach es X.env := by rfl) (hpl : (backTo pos (starEach es X.env)).any (·.1) = false := by rfl) :
    Pe X ex δ (.Call (.Name x p) (e :: es) [] pos) k := fun F σ H en tk =>
  we_of (pe_call G hr hg hm hk hb .nil (passesW tk) pa_self hdb he hpl) (wa_mono (h F σ H en tk) fun vs H1 ⟨en1, k1, ss, t1, q⟩ => by
    rw [List.append_nil]
    exact fn_end en k1 en1 t1 q)

/-! ### slices -/
def cutD (xs : List D) (lo hi : Option Int) : List D := (xs.drop (HT.sIx xs.length 0 lo)).take (HT.sIx xs.length xs.length hi - HT.sIx xs.length 0 lo)
def Po (X : Cx) (ex : Value → Prop) (δ : List Slot) (e : Option Expr) (k : Option Int → Prop) : Prop :=
  ∀ (F : Fm) (σ : L2.St) (H : Hp), En X.K F δ σ H → L2N.Takes X (Wx F ex) → ∃ t, PO X e t ∧ t σ H fun o H' => En X.K F δ σ H' ∧ Kp F.B H H' ∧ k o
theorem po_no {k : Option Int → Prop} (h : k none) : Po X ex δ none k := fun F σ H en tk => ⟨_, L2.po_none, en, .refl _, h⟩
theorem po_so {k : Option Int → Prop} (h : Pe X ex δ e fun d => ∃ i, d = .int i ∧ k (some i)) : Po X ex δ (some e) k := fun F σ H en tk => ⟨_, L2.po_some pe_self, we_mono (h F σ H en tk) fun v H1 ⟨en1, k1, d, t, i, e1, q⟩ => by
  subst e1
  cases t
  exact ⟨i, rfl, en1, k1, q⟩⟩
def WO (X : Cx) (e : Option Expr) : TO := fun σ H Q => ∃ t, PO X e t ∧ t σ H Q
theorem wo_self {e : Option Expr} : PO X e (WO X e) := ⟨fun pins s σ H Q I ⟨t, ht, q⟩ => ht.run pins s σ H Q I q⟩
theorem wo_mono {e : Option Expr} {σ : L2.St} {H : Hp} {Q Q' : Option Int → Hp → Prop} (h : WO X e σ H Q) (q : ∀ o H', Q o H' → Q' o H') : WO X e σ H Q' := by
  obtain ⟨t, ht, h⟩ := h
  refine ⟨fun σ1 H1 Q1 => σ1 = σ ∧ H1 = H ∧ ∀ o H', Q o H' → Q1 o H', ⟨fun pins s σ1 H1 Q1 I ⟨e1, e2, q1⟩ => ?_⟩, rfl, rfl, q⟩
  subst e1; subst e2
  exact thn (ht.run pins s _ _ Q I h) fun u s' ⟨o, H', J, r, z⟩ => ⟨o, H', J, r, q1 o H' z⟩
theorem wo_of {e : Option Expr} {kO : Option Int → Prop} {F : Fm} {σ : L2.St} {H : Hp} (h : Po X ex δ e kO) (en : En X.K F δ σ H) (tk : L2N.Takes X (Wx F ex)) : WO X e σ H fun o H' => En X.K F δ σ H' ∧ Kp F.B H H' ∧ kO o := h F σ H en tk
theorem tds_cut {H : Hp} {vs : List V} {ds : List D} {lo hi : Option Int} (t : Tds H vs ds) : Tds H (cutV vs lo hi) (cutD ds lo hi) := by
  unfold cutV cutD
  rw [t.length]
  exact (t.drop _).take _
/-- t[lo:hi] of a tuple, of a list -/
theorem pe_slT {lo hi : Option Expr} {p2 : Pos} (h : Pe X ex δ e fun d => Po X ex δ lo fun l => Po X ex δ hi fun u => ∃ ds, d = .tuple ds ∧ k (.tuple (cutD ds l u))) : Pe X ex δ (.Subscript e (.Slice lo hi none p2) pos) k := fun F σ H en tk =>
  we_of (pe_slice sl_tupA pe_self wo_self wo_self) (we_mono (h F σ H en tk) fun v H1 ⟨en1, k1, d, t, q⟩ => wo_mono (wo_of q en1 tk) fun l H2 ⟨en2, k2, q⟩ => wo_mono (wo_of q en2 tk) fun u H3 ⟨en3, k3, ds, e1, q9⟩ => by
    subst e1
    have t := (t.mono (kp_msk k2)).mono (kp_msk k3)
    cases t with
    | @tup a ws _ e2 z2 t =>
      refine ⟨a, ws, rfl, .of (mask_le _ _ e2), fun hw => ?_, fun hw p hp => ⟨en3.same (same_upd hp), ((k1.trans k2).trans k3).trans (.of_same (same_upd hp)), _, .tup (mask_new en3.tracked hp) (Nat.le_trans (cutV_length ws l u) z2) (tds_cut (t.mono (same_mask (same_upd hp)))), q9⟩⟩
      have e : cutD ds l u = ds := by
        unfold cutD
        rw [← t.length, hw.1, hw.2, Nat.sub_zero, t.length]
        exact List.take_length
      rw [e] at q9
      exact ⟨en3, (k1.trans k2).trans k3, _, .tup e2 z2 t, q9⟩)
theorem pe_slL {lo hi : Option Expr} {p2 : Pos} (h : Pe X ex δ e fun d => Po X ex δ lo fun l => Po X ex δ hi fun u => ∃ ds, d = .list ds ∧ k (.list (cutD ds l u))) : Pe X ex δ (.Subscript e (.Slice lo hi none p2) pos) k := fun F σ H en tk =>
  we_of (pe_slice sl_list pe_self wo_self wo_self) (we_mono (h F σ H en tk) fun v H1 ⟨en1, k1, d, t, q⟩ => wo_mono (wo_of q en1 tk) fun l H2 ⟨en2, k2, q⟩ => wo_mono (wo_of q en2 tk) fun u H3 ⟨en3, k3, ds, e1, q9⟩ => by
    subst e1
    have t := (t.mono (kp_msk k2)).mono (kp_msk k3)
    cases t with
    | @lst a ws _ e2 z2 t =>
      exact ⟨a, ws, rfl, .of (mask_le _ _ e2), fun p hp => ⟨en3.same (same_upd hp), ((k1.trans k2).trans k3).trans (.of_same (same_upd hp)), _, .lst (mask_new en3.tracked hp) (Nat.le_trans (cutV_length ws l u) z2) (tds_cut (t.mono (same_mask (same_upd hp)))), q9⟩⟩)
theorem pe_rev {n : Nat} {p1 p2 p3 : Pos} (h : Pe X ex δ e fun d => ∃ ds, d = .list ds ∧ k (.list ds.reverse)) : Pe X ex δ (.Subscript e (.Slice none none (some (.UnaryOp .USub (.Constant (.int 1) n p1) p2)) p3) pos) k := fun F σ H en tk =>
  we_of (pe_revL pe_self) (we_mono (h F σ H en tk) fun v H1 ⟨en1, k1, d, t, ds, e1, q⟩ => by
    subst e1
    cases t with
    | @lst a ws _ e2 z2 t =>
      exact ⟨a, ws, rfl, .of (mask_le _ _ e2), fun p hp => ⟨en1.same (same_upd hp), k1.trans (.of_same (same_upd hp)), _, .lst (mask_new en1.tracked hp) (by rw [List.length_reverse]; exact z2) ((t.mono (same_mask (same_upd hp))).rev), q⟩⟩)

/-! ### what is walked -/
def WI (X : Cx) (tg iter : Expr) : TI := fun σ H R => ∀ (pins : List (Addr × Obj)) (s : Shared), Inv X pins σ H s → wpAny (model X.prog X.w) X.A (eval iter X.env) (fun v s1 => wpAny (model X.prog X.w) X.A (pyIter v) (PIE X pins σ tg R) X.xe s1) X.xe s
theorem pi_self {tg iter : Expr} : PI X tg iter (WI X tg iter) := ⟨fun pins s σ H R I h => h pins s I⟩
theorem wi_of {tg iter : Expr} {t : TI} {σ : L2.St} {H : Hp} {R : It → Hp → Prop} (h : PI X tg iter t) (q : t σ H R) : WI X tg iter σ H R := fun pins s I => h.run pins s σ H R I q
theorem wi_mono {tg iter : Expr} {σ : L2.St} {H : Hp} {R R' : It → Hp → Prop} (h : WI X tg iter σ H R) (q : ∀ J H', R J H' → R' J H') : WI X tg iter σ H R' := fun pins s I =>
  thn (h pins s I) fun v s1 h1 => thn h1 fun itv s2 ⟨it, fp, tn, J, H', e1, I2, T, st, f, r⟩ => ⟨it, fp, tn, J, H', e1, I2, T, st, f, q J H' r⟩
/-- the items, while all but Mm stands as at H1 -/
def Ylds (Mm Z : List Addr) (H1 : Hp) (J : It) (ds : List D) : Prop := Walk J ds.length (Kp Mm H1) fun i H x H' => Same H H' ∧
  ∀ M : List Addr, (∀ a ∈ M, H a ≠ none) → (∀ a ∈ M, a ∈ Mm ++ Z ∨ H1 a = none) → ∀ d, ds[i]? = some d → Td (mask M H') x d
def Pi (X : Cx) (ex : Value → Prop) (δ : List Slot) (ow : Bool) (tg iter : Expr) (k : List D → Prop) : Prop :=
  ∀ (F : Fm) (σ : L2.St) (H : Hp), En X.K F δ σ H → L2N.Takes X (Wx F ex) → WI X tg iter σ H fun J H1 => En X.K F δ σ H1 ∧ Kp F.B H H1 ∧
    ∃ ds, Ylds (if ow = true then F.B ++ owns δ else F.B) (if ow = true then F.Z else owns δ ++ F.Z) H1 J ds ∧ k ds
theorem mm_eq {ow : Bool} {F : Fm} : (if ow = true then F.B ++ owns δ else F.B) ++ (if ow = true then F.Z else owns δ ++ F.Z) = msk F δ := by
  cases ow
  · rfl
  · show (F.B ++ owns δ) ++ F.Z = F.B ++ (owns δ ++ F.Z)
    rw [List.append_assoc]
/-- data as it stood at H1, later -/
theorem keep_mask {Mm Z M : List Addr} {H1 H : Hp} (k : Kp Mm H1 H) (hM : ∀ a ∈ M, a ∈ Mm ++ Z ∨ H1 a = none) : ∀ a o, mask (Mm ++ Z) H1 a = some o → mask M H a = some o := fun a o e => by
  obtain ⟨n, e⟩ := of_mask e
  refine mask_of (fun m => ?_) (k a o (fun z => n (List.mem_append_left _ z)) e)
  rcases hM a m with z | z
  · exact n z
  · rw [e] at z; cases z
theorem ylds_list {Mm Z : List Addr} {H1 : Hp} {a : Addr} {ds : List D} {K : PySem.W.Frag} {xs : List V} (e : mask (Mm ++ Z) H1 a = some (.lst xs)) (t : Tds (mask (Mm ++ Z) H1) xs ds) : Ylds Mm Z H1 (Itl K a) ds := by
  obtain ⟨n, e⟩ := of_mask e
  unfold Ylds
  rw [← t.length]
  refine (walk_list (K := K) (a := a) (xs := xs)).mono (fun H k => .of (k a _ (fun z => n (List.mem_append_left _ z)) e)) fun i H x H' hi k ⟨e1, e2⟩ => ?_
  subst e1
  refine ⟨.refl _, fun M h1 h2 d hd => ?_⟩
  obtain ⟨d', e3, t3⟩ := t.get e2
  rw [hd] at e3
  cases e3
  exact t3.mono (keep_mask k h2)
theorem ylds_tup {Mm Z : List Addr} {H1 : Hp} {a : Addr} {ds : List D} {K : PySem.W.Frag} {xs : List V} (e : mask (Mm ++ Z) H1 a = some (.tup xs)) (t : Tds (mask (Mm ++ Z) H1) xs ds) : Ylds Mm Z H1 (Itt K a) ds := by
  obtain ⟨n, e⟩ := of_mask e
  unfold Ylds
  rw [← t.length]
  refine (walk_tup (K := K) (a := a) (xs := xs)).mono (fun H k => .of (k a _ (fun z => n (List.mem_append_left _ z)) e)) fun i H x H' hi k ⟨e1, e2⟩ => ?_
  subst e1
  refine ⟨.refl _, fun M h1 h2 d hd => ?_⟩
  obtain ⟨d', e3, t3⟩ := t.get e2
  rw [hd] at e3
  cases e3
  exact t3.mono (keep_mask k h2)
/-- lo, lo + 1, .. -/
def rngD (lo : Int) (n : Nat) : List D := (List.range n).map fun j => .int (lo + (j : Nat))
theorem rngD_length (lo : Int) (n : Nat) : (rngD lo n).length = n := by simp [rngD]
theorem rngD_get {lo : Int} {n j : Nat} {d : D} (h : (rngD lo n)[j]? = some d) : j < n ∧ d = .int (lo + (j : Nat)) := by
  have hl : j < (rngD lo n).length := (List.getElem?_eq_some_iff.mp h).1
  rw [rngD_length] at hl
  refine ⟨hl, ?_⟩
  simp only [rngD, List.getElem?_map, List.getElem?_range hl, Option.map_some, Option.some.injEq] at h
  exact h.symm
theorem ylds_rng {Mm Z : List Addr} {H1 : Hp} {lo : Int} {n : Nat} : Ylds Mm Z H1 (Itr lo n) (rngD lo n) := by
  unfold Ylds
  rw [rngD_length]
  refine (walk_range (lo := lo) (n := n)).mono (fun _ _ => trivial) fun i H x H' hi k ⟨e1, e2⟩ => ?_
  subst e1 e2
  refine ⟨.refl _, fun M h1 h2 d hd => ?_⟩
  rw [(rngD_get hd).2]
  exact .int _
def enumD (n : Nat) : List D → List D
  | [] => []
  | d :: r => .tuple [.int n, d] :: enumD (n + 1) r
theorem enumD_length : ∀ (n : Nat) (ds : List D), (enumD n ds).length = ds.length
  | _, [] => rfl
  | n, _ :: r => by rw [enumD, List.length_cons, List.length_cons, enumD_length (n + 1) r]
theorem enumD_get : ∀ (n : Nat) (ds : List D) (j : Nat), (enumD n ds)[j]? = (ds[j]?).map fun d => .tuple [.int ((n + j : Nat) : Int), d]
  | _, [], j => by simp [enumD]
  | n, d :: r, 0 => by simp [enumD]
  | n, d :: r, j + 1 => by
    rw [enumD, List.getElem?_cons_succ, List.getElem?_cons_succ, enumD_get (n + 1) r j, show n + 1 + j = n + (j + 1) by omega]
theorem ylds_enum {Mm Z : List Addr} {H1 : Hp} {a : Addr} {ds : List D} {K : PySem.W.Frag} {xs : List V} (e : mask (Mm ++ Z) H1 a = some (.lst xs)) (t : Tds (mask (Mm ++ Z) H1) xs ds) : Ylds Mm Z H1 (Ite K a) (enumD 0 ds) := by
  obtain ⟨n, e⟩ := of_mask e
  unfold Ylds
  rw [enumD_length, ← t.length]
  refine (walk_enum (K := K) (a := a) (xs := xs)).mono (fun H k => .of (k a _ (fun z => n (List.mem_append_left _ z)) e)) fun i H x H' hi k ⟨T, x1, y1, e1, e2, e3, e4, e5⟩ => ?_
  subst e1 e3
  refine ⟨same_upd e2, fun M h1 h2 d hd => ?_⟩
  cases e4
  obtain ⟨d', e6, t6⟩ := t.get e5
  rw [enumD_get, e6] at hd
  cases hd
  rw [show (0 + i : Nat) = i by omega]
  exact .tup (mask_new h1 e2) (by show 2 ≤ sizeLine; decide) (.cons (.int _) (.cons ((t6.mono (keep_mask k h2)).mono (same_mask (same_upd e2))) .nil))

section
variable {tg : Expr} {ow : Bool} {k : List D → Prop}
theorem pi_l (h : Pe X ex δ e fun d => ∃ ds, d = .list ds ∧ k ds) : Pi X ex δ ow tg e k := fun F σ H en tk =>
  wi_of (pi_list pe_self) (we_mono (h F σ H en tk) fun v H1 ⟨en1, k1, d, t, ds, e1, q⟩ => by
    subst e1
    cases t with
    | @lst a ws _ e2 z2 t =>
      refine ⟨a, rfl, ⟨ws, .of (mask_le _ _ e2)⟩, en1, k1, ds, ?_, q⟩
      rw [← mm_eq (ow := ow)] at e2 t
      exact ylds_list e2 t)
theorem pi_t (h : Pe X ex δ e fun d => ∃ ds, d = .tuple ds ∧ k ds) : Pi X ex δ ow tg e k := fun F σ H en tk =>
  wi_of (pi_tup pe_self) (we_mono (h F σ H en tk) fun v H1 ⟨en1, k1, d, t, ds, e1, q⟩ => by
    subst e1
    cases t with
    | @tup a ws _ e2 z2 t =>
      refine ⟨a, rfl, ⟨ws, .of (mask_le _ _ e2)⟩, en1, k1, ds, ?_, q⟩
      rw [← mm_eq (ow := ow)] at e2 t
      exact ylds_tup e2 t)
/-- over a list of one's own that the body leaves as it is (a comprehension) -/
theorem pi_ow (i : Nat) {x : Str} {a : Addr} {xs : List D} (hi : δ[i]? = some (.own a xs)) (h : k xs) (hN : X.N[i]? = some x := by rfl) (hv : Vis X.env.scope x := by first | exact Or.inl rfl | exact Or.inr (Or.inl rfl) | exact Or.inr (Or.inr rfl))
    (hd : (x == ("__debug__" : Str)) = false := by decide) (hcd : (x == ("__classdict__" : Str)) = false := by decide) : Pi X ex δ false tg (.Name x pos) k := fun F σ H en tk => by
  obtain ⟨e1, vs, e2, z, t⟩ := en.ownAt hi
  refine wi_of (pi_list (pe_var hN hv hd hcd)) ⟨_, e1, a, rfl, ⟨vs, .of e2⟩, en, .refl _, xs, ?_, h⟩
  unfold Ylds
  rw [← t.length]
  refine (walk_list (K := X.K) (a := a) (xs := vs)).mono (fun H k => .of (k a _ (fun z => en.dj a (mem_owns hi) (List.mem_append_left _ z)) e2)) fun i H x H' hi k ⟨e1, e2⟩ => ?_
  subst e1
  refine ⟨.refl _, fun M h1 h2 d hd => ?_⟩
  obtain ⟨d', e3, t3⟩ := t.get e2
  rw [hd] at e3
  cases e3
  exact t3.mono (keep_mask k h2)
theorem pi_r1 (hm : X.mg "range" = none) (h : Pe X ex δ a fun d => ∃ n : Int, d = .int n ∧ (-(2 ^ 62) ≤ n ∧ n < 2 ^ 62) ∧ k (rngD 0 n.toNat)) (hg : Gl X "range" := by rfl) (hs : starEach [a] X.env = [(false, eval a X.env)] := by rfl)
    (he : starEach [a] X.env = (false, eval a X.env) :: starEach [] X.env := by rfl) : Pi X ex δ ow tg (.Call (.Name "range" p) [a] [] pos) k := fun F σ H en tk =>
  wi_of (pi_range1 hg hm (L2.pa_cons pe_self L2.pa_nil he) hs) (we_mono (h F σ H en tk) fun v H1 ⟨en1, k1, d, t, n, e1, ⟨h1, h2⟩, q⟩ => by
    subst e1
    cases t
    exact ⟨n, rfl, h1, h2, en1, k1, _, ylds_rng, q⟩)
theorem pi_r2 (hm : X.mg "range" = none) (h : Pe X ex δ a fun d => Pe X ex δ b fun d' => ∃ i j : Int, d = .int i ∧ d' = .int j ∧ (-(2 ^ 62) ≤ i ∧ i < 2 ^ 62 ∧ -(2 ^ 62) ≤ j ∧ j < 2 ^ 62) ∧ k (rngD i (j - i).toNat)) (hg : Gl X "range" := by rfl)
    (hs : starEach [a, b] X.env = [(false, eval a X.env), (false, eval b X.env)] := by rfl) (hs2 : starEach [b] X.env = [(false, eval b X.env)] := by rfl)
    (he : starEach [a, b] X.env = (false, eval a X.env) :: starEach [b] X.env := by rfl) (he2 : starEach [b] X.env = (false, eval b X.env) :: starEach [] X.env := by rfl) : Pi X ex δ ow tg (.Call (.Name "range" p) [a, b] [] pos) k := fun F σ H en tk =>
  wi_of (pi_range2 hg hm (L2.pa_cons pe_self (L2.pa_cons pe_self L2.pa_nil he2) he) hs hs2) (we_mono (h F σ H en tk) fun v H1 ⟨en1, k1, d, t, q⟩ => we_mono (q F σ H1 en1 tk) fun u H2 ⟨en2, k2, d', t', i, j, e1, e2, hb, q9⟩ => by
    subst e1 e2
    cases t
    cases t'
    exact ⟨i, j, rfl, hb, en2, k1.trans k2, _, ylds_rng, q9⟩)
theorem pi_en {elts : List Expr} {kk : Nat} {tpos : Pos} (hm : X.mg "enumerate" = none) (h : Pe X ex δ e fun d => ∃ ds, d = .list ds ∧ k (enumD 0 ds)) (hg : Gl X "enumerate" := by rfl) (hs : starEach [e] X.env = [(false, eval e X.env)] := by rfl)
    (he : starEach [e] X.env = (false, eval e X.env) :: starEach [] X.env := by rfl) : Pi X ex δ ow (.Tuple elts kk tpos) (.Call (.Name "enumerate" p) [e] [] pos) k := fun F σ H en tk =>
  wi_of (pi_enum hg hm (L2.pa_cons pe_self L2.pa_nil he) hs) (we_mono (h F σ H en tk) fun v H1 ⟨en1, k1, d, t, ds, e1, q⟩ => by
    subst e1
    cases t with
    | @lst a ws _ e2 z2 t =>
      refine ⟨a, ws, rfl, .of (mask_le _ _ e2), en1, k1, _, ?_, q⟩
      rw [← mm_eq (ow := ow)] at e2 t
      exact ylds_enum e2 t)
end
end
end Tl

set_option linter.all false
set_option maxRecDepth 100000
set_option maxHeartbeats 4000000
namespace Tl
open PySem PySem.Spec PyProof.Rows L2

/-! ### targets -/
inductive Pat where
  | nm (i : Nat)
  | tp (is : List Nat)
def gNames : List Nat → TGs
  | [] => gNil
  | i :: r => gCons (gName i) (gNames r)
def Pat.g (K : PySem.W.Frag) : Pat → TG
  | .nm i => gName i
  | .tp is => gTup K is.length (gNames is)
def Pat.is : Pat → List Nat
  | .nm i => [i]
  | .tp is => is
def bindAll : List Nat → List D → List Slot → Option (List Slot)
  | [], [], δ => some δ
  | i :: is, d :: ds, δ => bindAll is ds (δ.set i (.d d))
  | _, _, _ => none
def Pat.bind : Pat → D → List Slot → Option (List Slot)
  | .nm i, d, δ => some (δ.set i (.d d))
  | .tp is, .tuple ds, δ => bindAll is ds δ
  | _, _, _ => none
section
variable {K : PySem.W.Frag} {F : Fm} {δ δ' : List Slot} {σ : L2.St} {H H1 : Hp}
theorem En.putD (en : En K F δ σ H) (i : Nat) {v : V} {d : D} (t : Td (mask (msk F δ) H) v d) : En K F (δ.set i (.d d)) (σ.set i (some v)) H :=
  en.put rfl ⟨v, rfl, t.mono (mask_sub (msk_sub (owns_set_sub rfl)))⟩
theorem names_ok : ∀ (is : List Nat) {ds : List D} {vs : List V} {δ : List Slot} {σ : L2.St}, En K F δ σ H → Tds (mask (msk F δ) H) vs ds → bindAll is ds δ = some δ' →
    ∀ {Q : L2.St → Hp → Prop}, (∀ σ', (∀ j, j ∉ is → σ'[j]? = σ[j]?) → σ'.length = σ.length → En K F δ' σ' H → Q σ' H) → gNames is vs σ H Q
  | [], [], _, _, _, en, t, e, Q, q => by
    cases t
    cases e
    exact ⟨rfl, q _ (fun _ _ => rfl) rfl en⟩
  | i :: is, d :: ds, _, δ, σ, en, t, e, Q, q => by
    cases t with
    | cons t r =>
      refine ⟨_, _, rfl, ?_⟩
      refine names_ok is (en.putD i t) (r.mono (mask_sub (msk_sub (owns_set_sub rfl)))) e fun σ' h1 h2 h3 => q σ' (fun j hj => ?_) (by rw [h2, List.length_set]) h3
      simp only [List.mem_cons, not_or] at hj
      rw [h1 j hj.2, List.getElem?_set_ne (Ne.symm hj.1)]
  | [], _ :: _, _, _, _, _, _, e, _, _ => by cases e
  | _ :: _, [], _, _, _, _, _, e, _, _ => by cases e
theorem bindAll_len : ∀ (is : List Nat) {ds : List D} {δ : List Slot}, bindAll is ds δ = some δ' → ds.length = is.length
  | [], [], _, _ => rfl
  | _ :: is, _ :: ds, _, e => by rw [List.length_cons, List.length_cons, bindAll_len is e]
  | [], _ :: _, _, e => by cases e
  | _ :: _, [], _, e => by cases e
theorem Pat.ok (p : Pat) {d : D} {v : V} (en : En K F δ σ H) (t : Td (mask (msk F δ) H) v d) (e : p.bind d δ = some δ') {Q : L2.St → Hp → Prop}
    (q : ∀ σ', (∀ j, j ∉ p.is → σ'[j]? = σ[j]?) → σ'.length = σ.length → En K F δ' σ' H → Q σ' H) : p.g K v σ H Q := by
  cases p with
  | nm i =>
    cases e
    refine q _ (fun j hj => ?_) List.length_set (en.putD i t)
    rw [List.getElem?_set_ne (fun z => hj (by rw [z]; exact List.mem_cons_self))]
  | tp is =>
    cases d with
    | tuple ds =>
      cases t with
      | tup e1 z1 t1 => exact ⟨_, _, rfl, .of (mask_le _ _ e1), by rw [t1.length]; exact bindAll_len is e, names_ok is en t1 e q⟩
    | _ => cases e
/-! ### the block of a comprehension -/
def wipeS (δ : List Slot) : List Nat → List Slot
  | [] => δ
  | v :: vs => (wipeS δ vs).set v .un
theorem En.wipe (en : En K F δ σ H) : ∀ vs : List Nat, En K F (wipeS δ vs) (L2.wipe σ vs) H
  | [] => en
  | v :: vs => (En.wipe en vs).forget
theorem wipe_get {σ : L2.St} {j : Nat} : ∀ {vs : List Nat}, (L2.wipe σ vs)[j]? = if j ∈ vs then (σ[j]?).map (fun _ => none) else σ[j]?
  | [] => rfl
  | v :: vs => by
    show ((L2.wipe σ vs).set v none)[j]? = _
    by_cases hv : v = j
    · subst hv
      rw [List.getElem?_set, if_pos rfl, if_pos List.mem_cons_self]
      rw [wipe_length]
      by_cases hl : v < σ.length
      · rw [if_pos hl, List.getElem?_eq_getElem hl]; rfl
      · rw [if_neg hl, List.getElem?_eq_none (by omega)]; rfl
    · rw [List.getElem?_set_ne hv, wipe_get]
      have e : (j ∈ v :: vs) ↔ j ∈ vs := by
        rw [List.mem_cons]
        exact ⟨fun h => h.resolve_left (fun z => hv z.symm), .inr⟩
      simp only [e]
theorem wipe_eq {σ σ' : L2.St} {is vs : List Nat} (h : ∀ j, j ∉ is → σ'[j]? = (L2.wipe σ vs)[j]?) (hl : σ'.length = (L2.wipe σ vs).length) (hs : ∀ j ∈ is, j ∈ vs) : L2.wipe σ' vs = L2.wipe σ vs := by
  refine List.ext_getElem? fun j => ?_
  rw [wipe_get]
  by_cases hj : j ∈ vs
  · rw [if_pos hj]
    have e : (L2.wipe σ vs)[j]? = (σ[j]?).map (fun _ => none) := by rw [wipe_get, if_pos hj]
    rw [e]
    have l : σ'.length = σ.length := by rw [hl, wipe_length]
    by_cases hb : j < σ.length
    · rw [List.getElem?_eq_getElem hb, List.getElem?_eq_getElem (by omega)]; rfl
    · rw [List.getElem?_eq_none (by omega), List.getElem?_eq_none (by omega)]
  · rw [if_neg hj]
    exact h j fun z => hj (hs j z)
def Fm.hid (F : Fm) (δ : List Slot) (H1 : Hp) (L : Addr) : Fm := { mu := F.B ++ owns δ, h0 := H1, B := F.B, Z := L :: F.Z }
theorem mem_hid {L a : Addr} : a ∈ msk (F.hid δ H1 L) δ' ↔ a ∈ F.B ∨ a ∈ owns δ' ∨ a = L ∨ a ∈ F.Z := by
  show a ∈ F.B ++ (owns δ' ++ (L :: F.Z)) ↔ _
  simp only [List.mem_append, List.mem_cons]
theorem mem_msk {a : Addr} : a ∈ msk F δ ↔ a ∈ F.B ∨ a ∈ owns δ ∨ a ∈ F.Z := by
  show a ∈ F.B ++ (owns δ ++ F.Z) ↔ _
  simp only [List.mem_append]
theorem En.hid {L : Addr} (en : En K F δ σ H1) (hL : H1 L = none) (k : Kp F.B H1 H) (g : Glo F.B (owns δ ++ (L :: F.Z)) H) : En K (F.hid δ H1 L) δ σ H := by
  have nL : L ∉ msk F δ := en.fresh hL
  have km : ∀ a o, mask (msk F δ) H1 a = some o → mask (msk (F.hid δ H1 L) δ) H a = some o := fun a o e => by
    obtain ⟨n, e⟩ := of_mask e
    refine mask_of (fun m => ?_) (k a o (fun z => n (mem_msk.mpr (.inl z))) e)
    rcases mem_hid.mp m with z | z | z | z
    · exact n (mem_msk.mpr (.inl z))
    · exact n (mem_msk.mpr (.inr (.inl z)))
    · rw [z, hL] at e; cases e
    · exact n (mem_msk.mpr (.inr (.inr z)))
  refine ⟨en.len, fun i s h => (en.sl i s h).kp (fun a xs e => ?_) km, en.nd, fun a m z => ?_, fun a m => .inl (List.mem_append_right _ m), fun a m => List.mem_append_left _ m, fun a m z => ?_, k.mono fun a m => List.mem_append_left _ m, g⟩
  · subst e
    obtain ⟨_, vs, e2, _, _⟩ := en.ownAt h
    rw [e2]
    exact k _ _ (fun z => en.dj a (mem_owns h) (List.mem_append_left _ z)) e2
  · rcases List.mem_append.mp z with z | z
    · exact en.dj a m (List.mem_append_left _ z)
    · rcases List.mem_cons.mp z with z | z
      · subst z; exact nL (mem_msk.mpr (.inr (.inl m)))
      · exact en.dj a m (List.mem_append_right _ z)
  · have z : a ∈ F.B ++ owns δ := z
    have m : a ∈ L :: F.Z := m
    rcases List.mem_cons.mp m with e | m
    · subst e
      rcases List.mem_append.mp z with z | z
      · exact nL (mem_msk.mpr (.inl z))
      · exact nL (mem_msk.mpr (.inr (.inl z)))
    · rcases List.mem_append.mp z with z | z
      · exact en.zm a m (en.bm a z)
      · exact en.dj a z (List.mem_append_right _ m)
end

def nope : Value → Prop := fun _ => False
def WTs (X : Cx) (ifs : List Expr) : TT := fun σ H Q => ∀ (pins : List (Addr × Obj)) (s : Shared), Inv X pins σ H s →
    wpAny (model X.prog X.w) X.A (forIn ifs true fun c r => if r = true then do let ok ← isTrue c X.env (eval c X.env); pure (ForInStep.yield ok) else pure (ForInStep.yield r)) (TP X pins σ Q) X.xe s
def Pts (X : Cx) (ex : Value → Prop) (δ : List Slot) (ifs : List Expr) (k : Bool → Prop) : Prop :=
  ∀ (F : Fm) (σ : L2.St) (H : Hp), En X.K F δ σ H → L2N.Takes X (Wx F ex) → WTs X ifs σ H fun b H' => En X.K F δ σ H' ∧ Kp F.B H H' ∧ k b
section
variable {X : Cx} {ex : Value → Prop} {δ : List Slot} {e a b c : Expr} {es rest : List Expr} {pos p : Pos} {k : D → Prop} {x : Str} {i : Nat}
theorem wts_mono {ifs : List Expr} {σ : L2.St} {H : Hp} {Q Q' : Bool → Hp → Prop} (h : WTs X ifs σ H Q) (q : ∀ b H', Q b H' → Q' b H') : WTs X ifs σ H Q' := fun pins s I => thn (h pins s I) fun b _ ⟨H', J, z⟩ => ⟨H', J, q b H' z⟩
theorem pts_0 {k : Bool → Prop} (h : k true) : Pts X ex δ [] k := fun F σ H en tk pins s I => L2.pts_nil.run pins s σ H _ I ⟨en, .refl _, h⟩
theorem pts_1 {k : Bool → Prop} (h : Pt X ex δ c k) : Pts X ex δ [c] k := fun F σ H en tk pins s I => (L2.pts_one pt_self).run pins s σ H _ I (h F σ H en tk)
theorem takesN {F : Fm} : L2N.Takes X (fun _ _ _ _ => False) → L2N.Takes X (Wx F nope) := fun h => h.imp fun _ _ _ _ z => z.2.2.2
/-- what a comprehension asks: over its items, an invariant of the list so far -/
abbrev LcB (X : Cx) (δ : List Slot) (pt : Pat) (elt : Expr) (ifs : List Expr) (scope : Scope) (vs : List Nat) (k : D → Prop) (ds : List D) : Prop := ds.length ≤ 16777216 ∧ ∃ I : Nat → List D → Prop, I 0 [] ∧
      (∀ j d acc, ds[j]? = some d → I j acc → ∃ (δ' : List Slot) (kt : Bool → Prop), pt.bind d (wipeS δ vs) = some δ' ∧ owns δ' = owns δ ∧
        (∀ (s : Shared) (H : Hp) (C : Addr) (cl : List (Str × Addr)) (fp : List Addr), Pts (X.blk s H scope (compEnvC scope cl C X.env) fp) nope δ' ifs kt) ∧ (kt false → I (j + 1) acc) ∧
        (kt true → ∀ (s : Shared) (H : Hp) (C : Addr) (cl : List (Str × Addr)) (fp : List Addr), Pe (X.blk s H scope (compEnvC scope cl C X.env) fp) nope δ' elt fun y => I (j + 1) (acc ++ [y]))) ∧
      ∀ acc, I ds.length acc → acc.length ≤ ds.length → k (.list acc)
def LcH (X : Cx) (ex : Value → Prop) (δ : List Slot) (pt : Pat) (elt tg iter : Expr) (ifs : List Expr) (scope : Scope) (vs : List Nat) (k : D → Prop) : Prop := Pi X ex δ false tg iter (LcB X δ pt elt ifs scope vs k)
theorem lc_body {elt : Expr} {ifs : List Expr} {scope : Scope} {vs : List Nat} (pt : Pat) (hpt : ∀ i ∈ pt.is, i ∈ vs) {F : Fm} {σ : L2.St} {H H1 : Hp} {J : It} {ds : List D} (en1 : En X.K F δ σ H1) (k1 : Kp F.B H H1) (yl : Ylds F.B (owns δ ++ F.Z) H1 J ds) (b : LcB X δ pt elt ifs scope vs k ds)
    {Q : VK} (hQ : ∀ v H' d, En X.K F δ σ H' → Kp F.B H H' → Td (mask (msk F δ) H') v d → k d → Q v H') :
    tLc (fun _ _ R => R J H1) (pt.g X.K) (fun σ H Q => ∀ (s : Shared) (H' : Hp) (C : Addr) (cl : List (Str × Addr)) (fp : List Addr), WTs (X.blk s H' scope (compEnvC scope cl C X.env) fp) ifs σ H Q)
      (fun σ H Q => ∀ (s : Shared) (H' : Hp) (C : Addr) (cl : List (Str × Addr)) (fp : List Addr), WE (X.blk s H' scope (compEnvC scope cl C X.env) fp) elt σ H Q) vs σ H Q := by
  obtain ⟨hz, I, I0, step, fin⟩ := b
  intro L hL
  have nB : L ∉ F.B := fun z => en1.fresh hL (mem_msk.mpr (.inl z))
  refine lc_it (n := ds.length) (g := pt.g X.K) (tt := fun σ H Q => ∀ (s : Shared) (H' : Hp) (C : Addr) (cl : List (Str × Addr)) (fp : List Addr), WTs (X.blk s H' scope (compEnvC scope cl C X.env) fp) ifs σ H Q)
    (te := fun σ H Q => ∀ (s : Shared) (H' : Hp) (C : Addr) (cl : List (Str × Addr)) (fp : List Addr), WE (X.blk s H' scope (compEnvC scope cl C X.env) fp) elt σ H Q) (vs := vs) (σ := σ) (Pv := fun j H => Kp F.B H1 H ∧ Glo F.B (owns δ ++ (L :: F.Z)) H ∧ ∃ acc ds', H L = some (.lst acc) ∧ acc.length ≤ j ∧ Tds (mask (msk (F.hid δ H1 L) δ) H) acc ds' ∧ I j ds') yl
    ⟨.of_same (same_upd hL), ?_, [], [], upd_same, Nat.le_refl _, .nil, I0⟩ (fun _ _ _ h => h.1) ?_ ?_
  · refine ⟨fun a m => ?_, fun b m => ?_, fun a m => ?_⟩
    · rcases List.mem_append.mp m with m | m
      · rw [upd_ne (fun z => nB (by rw [← z]; exact m))]
        exact en1.nc a (mem_msk.mpr (.inl m))
      · rcases List.mem_append.mp m with m | m
        · rw [upd_ne (fun z => en1.fresh hL (mem_msk.mpr (.inr (.inl (by rw [← z]; exact m)))))]
          exact en1.nc a (mem_msk.mpr (.inr (.inl m)))
        · rcases List.mem_cons.mp m with m | m
          · rw [m, upd_same]
            exact nc_lst
          · rw [upd_ne (fun z => en1.fresh hL (mem_msk.mpr (.inr (.inr (by rw [← z]; exact m)))))]
            exact en1.nc a (mem_msk.mpr (.inr (.inr m)))
    · refine (en1.glo.bags b m).kp (upd_ne fun z => nB (by rw [← z]; exact m)) fun a o e => ?_
      obtain ⟨n, e⟩ := of_mask e
      have ne : a ≠ L := fun z => by rw [z, hL] at e; cases e
      refine mask_of (fun m => ?_) (by rw [upd_ne ne]; exact e)
      rcases List.mem_append.mp m with m | m
      · exact n (List.mem_append_left _ m)
      · rcases List.mem_append.mp m with m | m
        · exact n (List.mem_append_right _ (List.mem_append_left _ m))
        · rcases List.mem_cons.mp m with m | m
          · exact ne m
          · exact n (List.mem_append_right _ (List.mem_append_right _ m))
    · rcases List.mem_append.mp m with m | m
      · obtain ⟨xs, z⟩ := en1.glo.zl a (List.mem_append_left _ m)
        exact ⟨xs, by rw [upd_ne (ne_of_none z hL)]; exact z⟩
      · rcases List.mem_cons.mp m with m | m
        · exact ⟨_, by rw [m, upd_same]⟩
        · obtain ⟨xs, z⟩ := en1.glo.zl a (List.mem_append_right _ m)
          exact ⟨xs, by rw [upd_ne (ne_of_none z hL)]; exact z⟩
  · rintro j v H H' hj ⟨kp, g, acc, ds', eL, hl, tacc, hI⟩ ⟨sm, ty⟩
    have hd : ds[j]? = some ds[j] := List.getElem?_eq_getElem hj
    obtain ⟨δ', kt, hb, how, bt, bf, be⟩ := step j ds[j] ds' hd hI
    have e0 : En X.K (F.hid δ H1 L) δ σ H' := (en1.hid hL kp g).same sm
    have e1 := e0.wipe vs
    have td : Td (mask (msk (F.hid δ H1 L) (wipeS δ vs)) H') v ds[j] := by
      refine ty _ (fun a m => ?_) (fun a m => ?_) _ hd
      · exact ((en1.hid hL kp g).wipe vs).tracked a m
      · show a ∈ msk F δ ∨ H1 a = none
        have sub : a ∈ owns (wipeS δ vs) → a ∈ owns δ := by
          intro m
          have gen : ∀ vs : List Nat, a ∈ owns (wipeS δ vs) → a ∈ owns δ := by
            intro vs
            induction vs with
            | nil => exact id
            | cons w ws ih => exact fun m => ih (owns_set_sub rfl a m)
          exact gen _ m
        rcases mem_hid.mp m with z | z | z | z
        · exact .inl (mem_msk.mpr (.inl z))
        · exact .inl (mem_msk.mpr (.inr (.inl (sub z))))
        · exact .inr (by rw [z]; exact hL)
        · exact .inl (mem_msk.mpr (.inr (.inr z)))
    refine pt.ok e1 td hb fun σ2 h1 h2 e2 => ⟨wipe_eq h1 h2 hpt, ?_⟩
    intro s0 H0 C cl fp
    refine wts_mono (bt s0 H0 C cl fp _ σ2 H' e2 (takesN takesNo)) fun b H3 ⟨e3, k3, q3⟩ => ?_
    have kHL : ∀ {H4 : Hp}, Kp F.B H' H4 → H4 L = some (.lst acc) := fun k => k L _ nB (sm _ _ eL)
    have g_of : ∀ {H4 : Hp}, En X.K (F.hid δ H1 L) δ' σ2 H4 → Glo F.B (owns δ ++ (L :: F.Z)) H4 := fun e => by
      have z := e.glo
      rw [how] at z
      exact z
    cases b with
    | false => exact ⟨kp.trans ((Kp.of_same sm).trans k3), g_of e3, acc, ds', kHL k3, Nat.le_succ_of_le hl, (tacc.mono (same_mask sm)).mono (kp_msk (δ := δ) (F := F.hid δ H1 L) k3), bf q3⟩
    | true =>
      intro s4 H5 C4 cl4 fp4
      refine we_mono (be q3 s4 H5 C4 cl4 fp4 _ σ2 H3 e3 (takesN takesNo)) fun y H4 h4 => ?_
      · obtain ⟨e4, k4, d, t4, q4⟩ := h4
        have tacc4 := ((tacc.mono (same_mask sm)).mono (kp_msk (δ := δ) (F := F.hid δ H1 L) k3)).mono (kp_msk (δ := δ) (F := F.hid δ H1 L) k4)
        have t4' : Td (mask (msk (F.hid δ H1 L) δ) H4) y d := t4.mono (mask_sub fun a m => by
          rcases mem_hid.mp m with z | z | z | z
          · exact mem_hid.mpr (.inl z)
          · exact mem_hid.mpr (.inr (.inl (by rw [how]; exact z)))
          · exact mem_hid.mpr (.inr (.inr (.inl z)))
          · exact mem_hid.mpr (.inr (.inr (.inr z))))
        refine ⟨acc, kHL (k3.trans k4), Nat.lt_of_lt_of_le (Nat.lt_of_le_of_lt hl hj) (by rw [sizeLine_eq]; exact hz), ?_⟩
        have Lm : L ∈ msk (F.hid δ H1 L) δ := mem_hid.mpr (.inr (.inr (.inl rfl)))
        have um : ∀ a o, mask (msk (F.hid δ H1 L) δ) H4 a = some o → mask (msk (F.hid δ H1 L) δ) (upd H4 L (.lst (acc ++ [y]))) a = some o := fun a o e => by
          obtain ⟨n, e⟩ := of_mask e
          exact mask_of n (by rw [upd_ne (fun z => n (by rw [z]; exact Lm))]; exact e)
        refine ⟨fun a o n e => ?_, ⟨fun a m => ?_, fun b m => ?_, fun a m => ?_⟩, acc ++ [y], ds' ++ [d], upd_same, ?_, Tds.app (tacc4.mono um) (.cons (t4'.mono um) .nil), q4⟩
        · rw [upd_ne (fun z => by rw [z, hL] at e; cases e)]
          exact (kp.trans ((Kp.of_same sm).trans (k3.trans k4))) a o n e
        · by_cases z : a = L
          · rw [z, upd_same]
            exact nc_lst
          · rw [upd_ne z]
            exact (g_of e4).there a m
        · refine ((g_of e4).bags b m).kp (upd_ne fun z => nB (by rw [← z]; exact m)) um
        · by_cases z : a = L
          · exact ⟨_, by rw [z, upd_same]⟩
          · obtain ⟨xs, q⟩ := (g_of e4).zl a m
            exact ⟨xs, by rw [upd_ne z]; exact q⟩
        · rw [List.length_append]
          exact Nat.succ_le_succ hl
  · rintro H' ⟨kp, g, acc, ds', eL, hl, tacc, hI⟩
    have g' : Glo F.B (owns δ ++ F.Z) H' := g.sub fun a m => (List.mem_append.mp m).elim (fun m => List.mem_append_left _ m) fun m => List.mem_append_right _ (List.mem_cons_of_mem _ m)
    refine hQ _ _ _ (en1.step kp g') (k1.trans kp) (.lst (mask_of (fun m => en1.fresh hL m) eL) (Nat.le_trans hl (by rw [sizeLine_eq]; exact hz)) (tacc.mono (mask_sub fun a m => ?_))) (fin _ hI (by rw [← tacc.length]; exact hl))
    rcases mem_msk.mp m with z | z | z
    · exact mem_hid.mpr (.inl z)
    · exact mem_hid.mpr (.inr (.inl z))
    · exact mem_hid.mpr (.inr (.inr (.inr z)))
theorem lc_read {elt tg iter : Expr} {ifs : List Expr} {scope : Scope} {vs : List Nat} (pt : Pat) (hpt : ∀ i ∈ pt.is, i ∈ vs) (h : LcH X ex δ pt elt tg iter ifs scope vs k) {F : Fm} {σ : L2.St} {H : Hp} (en : En X.K F δ σ H) (tk : L2N.Takes X (Wx F ex))
    {Q : VK} (hQ : ∀ v H' d, En X.K F δ σ H' → Kp F.B H H' → Td (mask (msk F δ) H') v d → k d → Q v H') :
    tLc (WI X tg iter) (pt.g X.K) (fun σ H Q => ∀ (s : Shared) (H' : Hp) (C : Addr) (cl : List (Str × Addr)) (fp : List Addr), WTs (X.blk s H' scope (compEnvC scope cl C X.env) fp) ifs σ H Q)
      (fun σ H Q => ∀ (s : Shared) (H' : Hp) (C : Addr) (cl : List (Str × Addr)) (fp : List Addr), WE (X.blk s H' scope (compEnvC scope cl C X.env) fp) elt σ H Q) vs σ H Q :=
  wi_mono (h F σ H en tk) fun J H1 ⟨en1, k1, ds, yl, b⟩ => lc_body pt hpt en1 k1 yl b hQ
/-- [elt for tg in iter if ..] -/
theorem pe_lc {elt tg iter : Expr} {ifs : List Expr} {scope : Scope} {own : List (Str × Nat)} (pt : Pat) (hc : X.calm = true) (hN : X.N.Nodup) (ok : BlkOk X.N X.env.scope scope own) (hpt : ∀ i ∈ pt.is, i ∈ own.map (·.2))
    (hg : ∀ (s : Shared) (H : Hp) (C : Addr) (cl : List (Str × Addr)) (fp : List Addr), PG (X.blk s H scope (compEnvC scope cl C X.env) fp) tg (pt.g X.K))
    (h : LcH X ex δ pt elt tg iter ifs scope (own.map (·.2)) k)
    (hs : ∀ x, foldedSetIterable iter X.env x = pure x := by intro _; rfl) : Pe X ex δ (.ListComp elt [⟨tg, iter, ifs, 0⟩] scope pos) k := fun F σ H en tk =>
  we_of (L2.pe_lc (te := (fun σ H Q => ∀ (s : Shared) (H' : Hp) (C : Addr) (cl : List (Str × Addr)) (fp : List Addr), WE (X.blk s H' scope (compEnvC scope cl C X.env) fp) elt σ H Q))
    (tt := (fun σ H Q => ∀ (s : Shared) (H' : Hp) (C : Addr) (cl : List (Str × Addr)) (fp : List Addr), WTs (X.blk s H' scope (compEnvC scope cl C X.env) fp) ifs σ H Q))
    hc hN pi_self ok hg (fun s H C cl fp => ⟨fun pins s' σ' H' Q I h => h s H C cl fp pins s' I⟩) (fun s H C cl fp => ⟨fun pins s' σ' H' Q I h => h s H C cl fp pins s' I⟩) hs) (lc_read pt hpt h en tk fun v H' d e1 e2 e3 e4 => ⟨e1, e2, d, e3, e4⟩)
end
end Tl

set_option linter.all false
set_option maxRecDepth 100000
set_option maxHeartbeats 4000000
namespace Tl
open PySem PySem.Spec PyProof.Rows L2

/-! ### statements -/
structure AE where
  nx : List Slot → Prop
  rt : D → Prop
  bk : List Slot → Prop := fun _ => False
  ct : List Slot → Prop := fun _ => False
  ex : Value → Prop := nope
def cz (K : PySem.W.Frag) (F : Fm) (A : AE) : Ends where
  nx := fun σ H => ∃ δ, En K F δ σ H ∧ A.nx δ
  rt := fun v H => Kp F.mu F.h0 H ∧ Glo F.B F.Z H ∧ ∃ d, Td (mask (F.B ++ F.Z) H) v d ∧ A.rt d
  bk := fun σ H => ∃ δ, En K F δ σ H ∧ A.bk δ
  ct := fun σ H => ∃ δ, En K F δ σ H ∧ A.ct δ
def Ps (X : Cx) (δ : List Slot) (st : Stmt) (A : AE) : Prop := ∀ (F : Fm) (σ : L2.St) (H : Hp), En X.K F δ σ H → L2N.Takes X (Wx F A.ex) → WS X st (cz X.K F A) σ H
def Pss (X : Cx) (δ : List Slot) (sts : List Stmt) (A : AE) : Prop := ∀ (F : Fm) (σ : L2.St) (H : Hp), En X.K F δ σ H → L2N.Takes X (Wx F A.ex) → WSs X sts (cz X.K F A) σ H
section
variable {X : Cx} {A : AE} {δ : List Slot} {e a b c : Expr} {es : List Expr} {st : Stmt} {sts rest : List Stmt} {pos p : Pos} {x : Str} {i : Nat}
theorem pss_nil (h : A.nx δ) : Pss X δ [] A := fun F σ H en tk => wss_of L2.pss_nil ⟨δ, en, h⟩
theorem pss_cons (h : Ps X δ st { A with nx := fun δ' => Pss X δ' rest A }) : Pss X δ (st :: rest) A := fun F σ H en tk =>
  wss_of (L2.pss_cons ps_self pss_self) (ws_mono (h F σ H en tk) ⟨fun σ' H' ⟨δ', en', q⟩ => q F σ' H' en' tk, fun _ _ q => q, fun _ _ q => q, fun _ _ q => q⟩)
theorem pss_one (h : Ps X δ st A) : Pss X δ [st] A := fun F σ H en tk => wss_of (L2.pss_one ps_self) (h F σ H en tk)
theorem Ps.imp {A' : AE} (h : Ps X δ st A) (h1 : ∀ δ, A.nx δ → A'.nx δ) (h2 : ∀ d, A.rt d → A'.rt d) (h3 : ∀ δ, A.bk δ → A'.bk δ) (h4 : ∀ δ, A.ct δ → A'.ct δ) (h5 : ∀ c, A.ex c → A'.ex c) : Ps X δ st A' := fun F σ H en tk =>
  ws_mono (h F σ H en (tk.imp fun _ _ _ _ ⟨a, b, c, d⟩ => ⟨a, b, c, h5 _ d⟩)) ⟨fun _ _ ⟨d, en, q⟩ => ⟨d, en, h1 d q⟩, fun _ _ ⟨k, g, d, t, q⟩ => ⟨k, g, d, t, h2 d q⟩, fun _ _ ⟨d, en, q⟩ => ⟨d, en, h3 d q⟩, fun _ _ ⟨d, en, q⟩ => ⟨d, en, h4 d q⟩⟩
/-- what the names hold is forgotten in part -/
theorem pss_drop (i : Nat) (h : Pss X (δ.set i .un) sts A) : Pss X δ sts A := fun F σ H en tk => h F σ H en.drop tk
theorem pss_freeze (i : Nat) {q : Addr} {xs : List D} (hi : δ[i]? = some (.own q xs)) (h : Pss X (δ.set i (.d (.list xs))) sts A) : Pss X δ sts A := fun F σ H en tk => h F σ H (en.freeze hi) tk
theorem ps_freeze (i : Nat) {q : Addr} {xs : List D} (hi : δ[i]? = some (.own q xs)) (h : Ps X (δ.set i (.d (.list xs))) st A) : Ps X δ st A := fun F σ H en tk => h F σ H (en.freeze hi) tk
theorem ret_of {F : Fm} {σ : L2.St} {H H' : Hp} {K : PySem.W.Frag} {v : V} {d : D} (en0 : En K F δ σ H) (en : En K F δ σ H') (t : Td (mask (msk F δ) H') v d) (q : A.rt d) : (cz K F A).rt v H' :=
  ⟨en.base, en.glo.sub fun a m => List.mem_append_right _ m, d, t.mono (mask_sub fun a m => by
    rcases List.mem_append.mp m with z | z
    · exact mem_msk.mpr (.inl z)
    · exact mem_msk.mpr (.inr (.inr z))), q⟩
theorem ps_ret (h : Pe X A.ex δ e A.rt) : Ps X δ (.Return (some e) pos) A := fun F σ H en tk =>
  ws_of (L2.ps_ret pe_self) (we_mono (h F σ H en tk) fun v H' ⟨en', k, d, t, q⟩ => ret_of en en' t q)
theorem ps_retN (h : A.rt .none) : Ps X δ (.Return none pos) A := fun F σ H en tk => ws_of L2.ps_retN (ret_of en en .non h)
theorem ps_pass (h : A.nx δ) : Ps X δ (.Pass pos) A := fun F σ H en tk => ws_of L2.ps_pass ⟨δ, en, h⟩
theorem ps_break (h : A.bk δ) : Ps X δ (.Break pos) A := fun F σ H en tk => ws_of L2.ps_break ⟨δ, en, h⟩
theorem ps_cont (h : A.ct δ) : Ps X δ (.Continue pos) A := fun F σ H en tk => ws_of L2.ps_continue ⟨δ, en, h⟩
theorem ps_if {p q : List Stmt} (h : Pt X A.ex δ c fun t => if t = true then Pss X δ p A else Pss X δ q A) : Ps X δ (.If c p q pos) A := fun F σ H en tk =>
  ws_of (L2.ps_if pt_self pss_self pss_self) (wt_mono (h F σ H en tk) fun t H' ⟨en', k, r⟩ => by
    cases t with
    | true => exact r F σ H' en' tk
    | false => exact r F σ H' en' tk)
theorem ps_expr (h : Pe X A.ex δ e fun _ => A.nx δ) (hs : swapsWith e none pos.line X.env = pure false := by rfl) : Ps X δ (.Expr e pos) A := fun F σ H en tk =>
  ws_of (L2.ps_expr pe_self hs) (we_mono (h F σ H en tk) fun v H' ⟨en', k, d, t, q⟩ => ⟨δ, en', q⟩)
theorem ps_doc {z : Str} {j : Nat} {p2 : Pos} (h : A.nx δ) : Ps X δ (.Expr (.Constant (.str z) j p2) pos) A := fun F σ H en tk => ws_of L2.ps_doc ⟨δ, en, h⟩
/-- x = e -/
theorem ps_as (i : Nat) {p2 : Pos} (hN : X.N.Nodup) (h : Pe X A.ex δ e fun d => A.nx (δ.set i (.d d))) (hi : X.N[i]? = some x := by rfl) (hx : Loc X.env.scope x := by first | exact Or.inl rfl | exact Or.inr rfl) (hs : swapsWith e (some (.Name x p2)) pos.line X.env = pure false := by rfl)
    (hf : X.fn x = true ∨ X.env.scope.names.lookup x = some .local := by first | exact .inl rfl | exact .inr rfl | assumption) : Ps X δ (.Assign [.Name x p2] e pos) A := fun F σ H en tk =>
  ws_of (ps_set hN hi hx pe_self hs hf) (we_mono (h F σ H en tk) fun v H' ⟨en', k, d, t, q⟩ => ⟨_, en'.putD i t, q⟩)
theorem ps_asR (i : Nat) {p2 : Pos} (hN : X.N.Nodup) (h : Pr X A.ex δ e fun v => A.nx (δ.set i (.raw v))) (hi : X.N[i]? = some x := by rfl) (hx : Loc X.env.scope x := by first | exact Or.inl rfl | exact Or.inr rfl) (hs : swapsWith e (some (.Name x p2)) pos.line X.env = pure false := by rfl)
    (hf : X.fn x = true ∨ X.env.scope.names.lookup x = some .local := by first | exact .inl rfl | exact .inr rfl | assumption) : Ps X δ (.Assign [.Name x p2] e pos) A := fun F σ H en tk =>
  ws_of (ps_set hN hi hx pe_self hs hf) (we_mono (h F σ H en tk) fun v H' ⟨en', k, q⟩ => ⟨_, en'.put (s := .raw v) rfl rfl, q⟩)
/-- x = [..] in one line -/
theorem ps_asLc (i : Nat) {p2 p3 : Pos} {elt tg iter : Expr} {ifs : List Expr} {scope : Scope} {own : List (Str × Nat)} (pt : Pat) (hc : X.calm = true) (hN : X.N.Nodup) (ok : BlkOk X.N X.env.scope scope own) (hpt : ∀ i ∈ pt.is, i ∈ own.map (·.2))
    (hg : ∀ (s : Shared) (H : Hp) (C : Addr) (cl : List (Str × Addr)) (fp : List Addr), PG (X.blk s H scope (compEnvC scope cl C X.env) fp) tg (pt.g X.K))
    (hsw : swapsWith (.ListComp elt [⟨tg, iter, ifs, 0⟩] scope pos) (some (.Name x p2)) p3.line X.env = pure true)
    (h : LcH X A.ex δ pt elt tg iter ifs scope (own.map (·.2)) fun d => A.nx (δ.set i (.d d)))
    (hy : X.N[i]? = some x := by rfl) (hyl : X.env.scope.names.lookup x = some .local := by rfl)
    (hs : ∀ x, foldedSetIterable iter X.env x = pure x := by intro _; rfl) : Ps X δ (.Assign [.Name x p2] (.ListComp elt [⟨tg, iter, ifs, 0⟩] scope pos) p3) A := fun F σ H en tk =>
  ws_of (ps_setLc (te := (fun σ H Q => ∀ (s : Shared) (H' : Hp) (C : Addr) (cl : List (Str × Addr)) (fp : List Addr), WE (X.blk s H' scope (compEnvC scope cl C X.env) fp) elt σ H Q)) (tt := (fun σ H Q => ∀ (s : Shared) (H' : Hp) (C : Addr) (cl : List (Str × Addr)) (fp : List Addr), WTs (X.blk s H' scope (compEnvC scope cl C X.env) fp) ifs σ H Q)) (i := i) hc hN hy hyl hsw pi_self ok hg (fun s H C cl fp => ⟨fun pins s' σ' H' Q I h => h s H C cl fp pins s' I⟩) (fun s H C cl fp => ⟨fun pins s' σ' H' Q I h => h s H C cl fp pins s' I⟩) hs)
    (lc_read pt hpt h en tk fun v H' d e1 e2 e3 e4 => ⟨_, e1.putD i e3, e4⟩)

/-! ### lists of one's own -/
theorem owns_set_own {q : Addr} {xs : List D} : ∀ a ∈ owns (δ.set i (.own q xs)), a = q ∨ a ∈ owns δ := fun a m => by
  obtain ⟨j, ys, e⟩ := of_owns m
  by_cases hj : i = j
  · subst hj
    by_cases hl : i < δ.length
    · rw [List.getElem?_set_self hl] at e
      cases e
      exact .inl rfl
    · rw [List.getElem?_eq_none (by simpa using hl)] at e; cases e
  · rw [List.getElem?_set_ne hj] at e
    exact .inr (mem_owns e)
theorem nd_set_own {q : Addr} {xs : List D} (nd : (owns δ).Nodup) (hq : q ∉ owns (δ.set i .un)) : (owns (δ.set i (.own q xs))).Nodup := by
  induction δ generalizing i with
  | nil => exact nd
  | cons t r ih =>
    cases i with
    | zero =>
      have nd : (List.filterMap Slot.ow (t :: r)).Nodup := nd
      have hq : q ∉ owns r := hq
      show (q :: owns r).Nodup
      refine List.nodup_cons.mpr ⟨hq, ?_⟩
      rw [List.filterMap_cons] at nd
      cases h : t.ow with
      | none => rw [h] at nd; exact nd
      | some b => rw [h] at nd; exact (List.nodup_cons.mp nd).2
    | succ i =>
      have nd : (List.filterMap Slot.ow (t :: r)).Nodup := nd
      have hq : q ∉ List.filterMap Slot.ow (t :: r.set i .un) := hq
      show (List.filterMap Slot.ow (t :: r.set i (.own q xs))).Nodup
      rw [List.filterMap_cons] at nd hq ⊢
      cases h : t.ow with
      | none => rw [h] at nd hq; exact ih nd hq
      | some b =>
        rw [h] at nd hq
        obtain ⟨n1, n2⟩ := List.nodup_cons.mp nd
        have hq2 : q ∉ List.filterMap Slot.ow (r.set i .un) := fun z => hq (List.mem_cons_of_mem _ z)
        have hqb : q ≠ b := fun z => hq (by rw [z]; exact List.mem_cons_self)
        refine List.nodup_cons.mpr ⟨fun m => ?_, ih n2 hq2⟩
        rcases owns_set_own b m with z | z
        · exact hqb z.symm
        · exact n1 z
/-- a slot is bound to a new list of one's own -/
theorem En.putOwn {K : PySem.W.Frag} {F : Fm} {σ : L2.St} {H : Hp} (en : En K F δ σ H) (i : Nat) {q : Addr} {vs : List V} {xs : List D} (hq : H q = none) (hz : vs.length ≤ sizeLine) (t : Tds (mask (msk F δ) H) vs xs) :
    En K F (δ.set i (.own q xs)) (σ.set i (some (.ref q))) (upd H q (.lst vs)) := by
  have nq : q ∉ msk F δ := en.fresh hq
  have hqo : q ∉ owns (δ.set i .un) := fun m => nq (mem_msk.mpr (.inr (.inl (owns_set_sub rfl q m))))
  have km : ∀ a o, mask (msk F δ) H a = some o → mask (msk F (δ.set i (.own q xs))) (upd H q (.lst vs)) a = some o := fun a o e => by
    obtain ⟨n, e⟩ := of_mask e
    have ne : a ≠ q := ne_of_none e hq
    refine mask_of (fun m => ?_) (by rw [upd_ne ne]; exact e)
    rcases mem_msk.mp m with z | z | z
    · exact n (mem_msk.mpr (.inl z))
    · rcases owns_set_own a z with z | z
      · exact ne z
      · exact n (mem_msk.mpr (.inr (.inl z)))
    · exact n (mem_msk.mpr (.inr (.inr z)))
  refine ⟨by rw [List.length_set, List.length_set, en.len], fun j s e => ?_, nd_set_own en.nd hqo, fun a m => ?_, fun a m => ?_, en.bm, en.zm, ?_, fun a m => ?_, fun b m => ?_, fun a m => ?_⟩
  · by_cases hj : i = j
    · subst hj
      by_cases hl : i < δ.length
      · rw [List.getElem?_set_self hl] at e
        have e := Option.some.inj e
        subst e
        rw [join_set_self (by rw [en.len]; exact hl)]
        exact ⟨rfl, vs, upd_same, hz, t.mono km⟩
      · rw [List.getElem?_eq_none (by simpa using hl)] at e; cases e
    · rw [List.getElem?_set_ne hj] at e
      rw [List.getElem?_set_ne hj]
      refine (en.sl j s e).kp (fun a ys z => ?_) km
      subst z
      exact upd_ne fun z => nq (mem_msk.mpr (.inr (.inl (by rw [← z]; exact mem_owns e))))
  · rcases owns_set_own a m with z | z
    · subst z
      exact fun m => nq (by
        rcases List.mem_append.mp m with m | m
        · exact mem_msk.mpr (.inl m)
        · exact mem_msk.mpr (.inr (.inr m)))
    · exact en.dj a z
  · rcases owns_set_own a m with z | z
    · subst z
      by_cases hm : a ∈ F.mu
      · exact .inl hm
      · cases h : F.h0 a with
        | none => exact .inr rfl
        | some o => rw [en.base a o hm h] at hq; cases hq
    · exact en.fr a z
  · exact en.base.trans (.of_same (same_upd hq))
  · by_cases z : a = q
    · rw [z, upd_same]; exact nc_lst
    · rw [upd_ne z]
      rcases List.mem_append.mp m with m | m
      · exact en.nc a (mem_msk.mpr (.inl m))
      · rcases List.mem_append.mp m with m | m
        · rcases owns_set_own a m with z' | z'
          · exact absurd z' z
          · exact en.nc a (mem_msk.mpr (.inr (.inl z')))
        · exact en.nc a (mem_msk.mpr (.inr (.inr m)))
  · exact (en.glo.bags b m).kp (upd_ne fun z => nq (mem_msk.mpr (.inl (by rw [← z]; exact m)))) km
  · by_cases z : a = q
    · exact ⟨_, by rw [z, upd_same]⟩
    · have m' : a ∈ owns δ ++ F.Z := by
        rcases List.mem_append.mp m with m | m
        · exact List.mem_append_left _ ((owns_set_own a m).resolve_left z)
        · exact List.mem_append_right _ m
      obtain ⟨ys, w⟩ := en.glo.zl a m'
      exact ⟨ys, by rw [upd_ne z]; exact w⟩
theorem owns_set_same {q : Addr} {xs ys : List D} (hi : δ[i]? = some (.own q xs)) : owns (δ.set i (.own q ys)) = owns δ := by
  induction δ generalizing i with
  | nil => rfl
  | cons s r ih =>
    cases i with
    | zero =>
      have e : s = .own q xs := by simpa using hi
      subst e
      rfl
    | succ i =>
      have := ih (i := i) (by simpa using hi)
      show List.filterMap Slot.ow (s :: r.set i (.own q ys)) = List.filterMap Slot.ow (s :: r)
      rw [List.filterMap_cons, List.filterMap_cons]
      cases s.ow with
      | none => exact this
      | some b => exact congrArg _ this
/-- .. its list is changed -/
theorem En.updOwn {K : PySem.W.Frag} {F : Fm} {σ : L2.St} {H : Hp} (en : En K F δ σ H) {q : Addr} {vs : List V} {xs ys : List D} (hi : δ[i]? = some (.own q xs)) (hz : vs.length ≤ sizeLine) (t : Tds (mask (msk F δ) H) vs ys) :
    En K F (δ.set i (.own q ys)) σ (upd H q (.lst vs)) := by
  obtain ⟨e1, ws, e2, _, _⟩ := en.ownAt hi
  have hl : i < δ.length := (List.getElem?_eq_some_iff.mp hi).1
  have mq : q ∈ owns δ := mem_owns hi
  have eo : owns (δ.set i (.own q ys)) = owns δ := owns_set_same hi
  have em : msk F (δ.set i (.own q ys)) = msk F δ := by unfold msk; rw [eo]
  have km : ∀ a o, mask (msk F δ) H a = some o → mask (msk F (δ.set i (.own q ys))) (upd H q (.lst vs)) a = some o := fun a o e => by
    obtain ⟨n, e⟩ := of_mask e
    rw [em]
    exact mask_of n (by rw [upd_ne (fun z => n (by rw [z]; exact mem_msk.mpr (.inr (.inl mq))))]; exact e)
  refine ⟨by rw [List.length_set, en.len], fun j s e => ?_, by rw [eo]; exact en.nd, fun a m => en.dj a (by rw [← eo]; exact m), fun a m => en.fr a (by rw [← eo]; exact m), en.bm, en.zm, fun a o n e => ?_, fun a m => ?_, fun b m => ?_, fun a m => ?_⟩
  · by_cases hj : i = j
    · subst hj
      rw [List.getElem?_set_self hl] at e
      have e := Option.some.inj e
      subst e
      exact ⟨by rw [e1]; rfl, vs, upd_same, hz, t.mono km⟩
    · rw [List.getElem?_set_ne hj] at e
      refine (en.sl j s e).kp (fun a zs z => ?_) km
      subst z
      refine upd_ne fun z => hj ?_
      -- two slots of one list
      subst z
      have gen : ∀ (l : List Slot) (i j : Nat) (xs ys : List D), l[i]? = some (.own a xs) → l[j]? = some (.own a ys) → (owns l).Nodup → i = j := by
        intro l
        induction l with
        | nil => intro i j xs ys h; simp at h
        | cons s r ih =>
          intro i j xs ys h1 h2 nd
          have nd : (List.filterMap Slot.ow (s :: r)).Nodup := nd
          rw [List.filterMap_cons] at nd
          cases i with
          | zero =>
            have e : s = .own a xs := by simpa using h1
            subst e
            cases j with
            | zero => rfl
            | succ j => exact absurd (mem_owns (i := j) (δ := r) (by simpa using h2)) (List.nodup_cons.mp nd).1
          | succ i =>
            cases j with
            | zero =>
              have e : s = .own a ys := by simpa using h2
              subst e
              exact absurd (mem_owns (i := i) (δ := r) (by simpa using h1)) (List.nodup_cons.mp nd).1
            | succ j =>
              have nd' : (owns r).Nodup := by
                cases h : s.ow with
                | none => rw [h] at nd; exact nd
                | some b => rw [h] at nd; exact (List.nodup_cons.mp nd).2
              rw [ih i j xs ys (by simpa using h1) (by simpa using h2) nd']
      exact gen δ i j _ _ hi e en.nd
  · refine (upd_ne fun z => ?_).trans (en.base a o n e)
    subst z
    rcases en.fr a mq with h | h
    · exact n h
    · rw [h] at e; cases e
  · by_cases z : a = q
    · rw [z, upd_same]; exact nc_lst
    · rw [upd_ne z]
      exact en.nc a (by rw [← em]; exact m)
  · exact (en.glo.bags b m).kp (upd_ne fun z => en.dj q mq (List.mem_append_left _ (by rw [← z]; exact m))) km
  · by_cases z : a = q
    · exact ⟨_, by rw [z, upd_same]⟩
    · obtain ⟨zs, w⟩ := en.glo.zl a (by rw [← eo]; exact m)
      exact ⟨zs, by rw [upd_ne z]; exact w⟩
/-- x = [], x = [a, b, ..]: a list of one's own -/
theorem ps_own (i : Nat) {p2 p3 : Pos} (hN : X.N.Nodup) (h : Pa X A.ex δ es fun ss => ∃ ds, ss = ds.map .d ∧ ds.length ≤ 16777216 ∧ ∀ q, A.nx (δ.set i (.own q ds))) (hi : X.N[i]? = some x := by rfl) (hx : Loc X.env.scope x := by first | exact Or.inl rfl | exact Or.inr rfl)
    (hs : swapsWith (.List es p3) (some (.Name x p2)) pos.line X.env = pure false := by rfl) (hf : X.fn x = true ∨ X.env.scope.names.lookup x = some .local := by first | exact .inl rfl | exact .inr rfl | assumption) : Ps X δ (.Assign [.Name x p2] (.List es p3) pos) A := fun F σ H en tk =>
  ws_of (ps_set hN hi hx (L2.pe_lst pa_self) hs hf) (wa_mono (h F σ H en tk) fun vs H1 ⟨en1, k1, ss, t1, ds, e1, hz, q⟩ => by
    subst e1
    have t2 := sargs_d t1
    have z : vs.length ≤ sizeLine := by rw [t2.length, sizeLine_eq]; exact hz
    exact ⟨z, fun p hp => ⟨_, en1.putOwn i hp z t2, q p⟩⟩)
/-- x.append(e) -/
theorem ps_app (i : Nat) {p2 p3 p4 : Pos} {q : Addr} {xs : List D} (hi : δ[i]? = some (.own q xs)) (h : Pe X A.ex δ e fun d => xs.length < 16777216 ∧ A.nx (δ.set i (.own q (xs ++ [d])))) (hN : X.N[i]? = some x := by rfl)
    (hv : Vis X.env.scope x := by first | exact Or.inl rfl | exact Or.inr (Or.inl rfl) | exact Or.inr (Or.inr rfl)) (hd : (x == ("__debug__" : Str)) = false := by decide) (hcd : (x == ("__classdict__" : Str)) = false := by decide)
    (hs : swapsWith (.Call (.Attribute (.Name x p2) "append" p3) [e] [] p4) none pos.line X.env = pure false := by rfl) (he : starEach [e] X.env = (false, eval e X.env) :: starEach [] X.env := by rfl)
    (hap : ∀ (tt : TE), PE X e tt → PE X (.Call (.Attribute (.Name x p2) "append" p3) [e] [] p4) (tBM X.K "list" rAppend (tVar i) (tCons tt tNil))) : Ps X δ (.Expr (.Call (.Attribute (.Name x p2) "append" p3) [e] [] p4) pos) A := fun F σ H en tk => by
  obtain ⟨e1, vs, e2, z, t⟩ := en.ownAt hi
  refine ws_of (L2.ps_expr (hap _ pe_self) hs) ⟨_, e1, .inl ⟨rfl, _, SqL.of e2⟩, we_mono (h F σ H en tk) fun v H1 ⟨en1, k1, d, td, hz, nx⟩ => ?_⟩
  obtain ⟨_, ws, e3, z3, t3⟩ := en1.ownAt hi
  refine ⟨q, ws, v, rfl, rfl, e3, by rw [t3.length, sizeLine_eq]; exact hz, ?_⟩
  exact ⟨_, en1.updOwn hi (by rw [List.length_append, t3.length, sizeLine_eq]; exact hz) (t3.app (.cons td .nil)), nx⟩

/-! ### several targets -/
theorem ps_par {i j : Nat} {x y : Str} {px py pt : Pos} {kt k2 : Nat} {pt2 : Pos} (hc : X.calm = true) (hN : X.N.Nodup) (hij : i ≠ j)
    (hw : swappedStores [.Tuple [.Name x px, .Name y py] kt pt] (.Tuple [a, b] k2 pt2) X.env = pure (some [x, y]))
    (h : Pe X A.ex δ a fun d => Pe X A.ex δ b fun d' => A.nx ((δ.set i (.d d)).set j (.d d'))) (hi : X.N[i]? = some x := by rfl) (hj : X.N[j]? = some y := by rfl)
    (hx : X.env.scope.names.lookup x = some .local := by rfl) (hy : X.env.scope.names.lookup y = some .local := by rfl)
    (hs : swapsWithSole [.Tuple [.Name x px, .Name y py] kt pt] (.Tuple [a, b] k2 pt2) pos.line X.env = pure false := by rfl)
    (he : starEach [a, b] X.env = (false, eval a X.env) :: starEach [b] X.env := by rfl) (he2 : starEach [b] X.env = (false, eval b X.env) :: starEach [] X.env := by rfl) :
    Ps X δ (.Assign [.Tuple [.Name x px, .Name y py] kt pt] (.Tuple [a, b] k2 pt2) pos) A := fun F σ H en tk =>
  ws_of (L2.ps_par hc hN hi hj hij hx hy (L2.pa_cons pe_self (L2.pa_cons pe_self L2.pa_nil he2) he) hw hs) (we_mono (h F σ H en tk) fun v H1 ⟨en1, k1, d, t, q⟩ => we_mono (q F σ H1 en1 tk) fun u H2 ⟨en2, k2, d', t', q⟩ =>
    ⟨v, u, rfl, _, (en2.putD i (t.mono (kp_msk k2))).putD j (t'.mono (mask_sub (msk_sub (owns_set_sub rfl)))), q⟩)
theorem ps_par3 {i j l : Nat} {x y z : Str} {px py pz pt : Pos} {kt k2 : Nat} {pt2 : Pos} (hc : X.calm = true) (hN : X.N.Nodup) (hij : i ≠ j) (hil : i ≠ l) (hjl : j ≠ l)
    (hw : swappedStores [.Tuple [.Name x px, .Name y py, .Name z pz] kt pt] (.Tuple [a, b, c] k2 pt2) X.env = pure (some [x, y, z]))
    (h : Pe X A.ex δ a fun d => Pe X A.ex δ b fun d' => Pe X A.ex δ c fun d'' => A.nx (((δ.set i (.d d)).set j (.d d')).set l (.d d''))) (hi : X.N[i]? = some x := by rfl) (hj : X.N[j]? = some y := by rfl) (hl : X.N[l]? = some z := by rfl)
    (hx : X.env.scope.names.lookup x = some .local := by rfl) (hy : X.env.scope.names.lookup y = some .local := by rfl) (hz : X.env.scope.names.lookup z = some .local := by rfl)
    (hs : swapsWithSole [.Tuple [.Name x px, .Name y py, .Name z pz] kt pt] (.Tuple [a, b, c] k2 pt2) pos.line X.env = pure false := by rfl)
    (he : starEach [a, b, c] X.env = (false, eval a X.env) :: starEach [b, c] X.env := by rfl) (he2 : starEach [b, c] X.env = (false, eval b X.env) :: starEach [c] X.env := by rfl) (he3 : starEach [c] X.env = (false, eval c X.env) :: starEach [] X.env := by rfl) :
    Ps X δ (.Assign [.Tuple [.Name x px, .Name y py, .Name z pz] kt pt] (.Tuple [a, b, c] k2 pt2) pos) A := fun F σ H en tk =>
  ws_of (L2.ps_par3 hc hN hi hj hl hij hil hjl hx hy hz (L2.pa_cons pe_self (L2.pa_cons pe_self (L2.pa_cons pe_self L2.pa_nil he3) he2) he) hw hs) (we_mono (h F σ H en tk) fun v H1 ⟨en1, k1, d, t, q⟩ => we_mono (q F σ H1 en1 tk) fun u H2 ⟨en2, k2, d', t', q⟩ => we_mono (q F σ H2 en2 tk) fun w H3 ⟨en3, k3, d'', t'', q⟩ =>
    ⟨v, u, w, rfl, _, ((en3.putD i ((t.mono (kp_msk k2)).mono (kp_msk k3))).putD j ((t'.mono (kp_msk k3)).mono (mask_sub (msk_sub (owns_set_sub rfl))))).putD l ((t''.mono (mask_sub (msk_sub (owns_set_sub rfl)))).mono (mask_sub (msk_sub (owns_set_sub rfl)))), q⟩)
/-- a, b = e: a tuple's items -/
theorem ps_unp {tg : Expr} (is : List Nat) (hg : PG X tg ((Pat.tp is).g X.K)) (h : Pe X A.ex δ e fun d => ∃ δ', (Pat.tp is).bind d δ = some δ' ∧ A.nx δ') (hs : swapsWithSole [tg] e pos.line X.env = pure false := by rfl) (hw : swappedStores [tg] e X.env = pure none := by rfl)
    (h1 : (assignEach [tg] X.env).map (·.2) = [assign tg X.env] := by rfl) : Ps X δ (.Assign [tg] e pos) A := fun F σ H en tk =>
  ws_of (ps_asg pe_self hg hs hw h1) (we_mono (h F σ H en tk) fun v H1 ⟨en1, k1, d, t, δ', hb, q⟩ => (Pat.tp is).ok en1 t hb fun σ' _ _ en' => ⟨δ', en', q⟩)

/-! ### loops -/
def Fm.lp (F : Fm) (δ : List Slot) (H : Hp) : Fm := { F with mu := F.B ++ owns δ, h0 := H }
section
variable {K : PySem.W.Frag} {F : Fm} {δ δ' : List Slot} {σ σ' : L2.St} {H H' : Hp}
theorem En.down (en : En K F δ σ H) : En K (F.lp δ H) δ σ H :=
  ⟨en.len, en.sl, en.nd, en.dj, fun a m => .inl (List.mem_append_right _ m), fun a m => List.mem_append_left _ m, fun a m z => by
    rcases List.mem_append.mp z with z | z
    · exact en.zm a m (en.bm a z)
    · exact en.dj a z (List.mem_append_right _ m), .refl _, en.glo⟩
theorem kp_up (en : En K F δ σ H) (k : Kp (F.B ++ owns δ) H H') : Kp F.mu F.h0 H' := fun a o n e =>
  k a o (fun z => by
    rcases List.mem_append.mp z with z | z
    · exact n (en.bm a z)
    · rcases en.fr a z with h | h
      · exact n h
      · rw [h] at e; cases e) (en.base a o n e)
theorem En.up (en : En K F δ σ H) (en' : En K (F.lp δ H) δ' σ' H') : En K F δ' σ' H' :=
  ⟨en'.len, en'.sl, en'.nd, en'.dj, fun a m => by
    rcases en'.fr a m with z | z
    · rcases List.mem_append.mp z with z | z
      · exact .inl (en.bm a z)
      · exact en.fr a z
    · by_cases h : a ∈ F.mu
      · exact .inl h
      · cases q : F.h0 a with
        | none => exact .inr rfl
        | some o =>
          have z : H a = none := z
          rw [en.base a o h q] at z
          exact (nomatch z), en.bm, en.zm, kp_up en en'.base, en'.glo⟩
theorem lp_le {A A' : AE} (en : En K F δ σ H) (hn : ∀ d, A'.nx d → A.nx d) (hr : ∀ d, A'.rt d → A.rt d) (hb : ∀ d, A'.bk d → A.bk d) (hc : ∀ d, A'.ct d → A.ct d) : EndsLe (cz K (F.lp δ H) A') (cz K F A) :=
  ⟨fun σ' H' ⟨d, e, q⟩ => ⟨d, en.up e, hn d q⟩, fun v H' ⟨k, g, d, t, q⟩ => ⟨kp_up en k, g, d, t, hr d q⟩, fun σ' H' ⟨d, e, q⟩ => ⟨d, en.up e, hb d q⟩, fun σ' H' ⟨d, e, q⟩ => ⟨d, en.up e, hc d q⟩⟩
theorem takes_lp {X : Cx} {ex : Value → Prop} (en : En K F δ σ H) (tk : L2N.Takes X (Wx F ex)) : L2N.Takes X (Wx (F.lp δ H) ex) := tk.imp fun _ _ _ _ ⟨a, b, c, d⟩ => ⟨a, kp_up en b, c, d⟩
end
/-- a for: I by the turn and what the names hold -/
theorem ps_for {tg iter : Expr} {body : List Stmt} (pt : Pat) (hp : PassesOwn (model X.prog X.w) X.A X.env X.xe) (hc : X.calm = true) (hg : PG X tg (pt.g X.K))
    (h : Pi X A.ex δ true tg iter fun ds => ∃ I : Nat → List Slot → Prop, I 0 δ ∧ (∀ j d δ1, ds[j]? = some d → I j δ1 → ∃ δ2, pt.bind d δ1 = some δ2 ∧ Pss X δ2 body { nx := I (j + 1), ct := I (j + 1), bk := A.nx, rt := A.rt, ex := A.ex }) ∧ ∀ δ1, I ds.length δ1 → A.nx δ1)
    (hs : ∀ x, foldedSetIterable iter X.env x = pure x := by intro _; rfl) : Ps X δ (.For tg iter body [] pos) A := fun F σ H en tk => by
  refine ws_of (L2.ps_for hp hc pi_self hg pss_self hs) (wi_mono (h F σ H en tk) fun J H1 ⟨en1, k1, ds, yl, I, I0, step, fin⟩ => ?_)
  refine for_it (n := ds.length) (tb := WSs X body) (D := cz X.K F A) (Pv := fun j σ H => ∃ δ1, En X.K (F.lp δ H1) δ1 σ H ∧ I j δ1) yl ⟨δ, en1.down, I0⟩ (fun j σ' H' _ ⟨δ1, e1, _⟩ => e1.base) ?_ ?_
  · rintro j v σ2 H2 H3 hj ⟨δ1, e1, hI⟩ ⟨sm, ty⟩
    have hd : ds[j]? = some ds[j] := List.getElem?_eq_getElem hj
    obtain ⟨δ2, hb, body⟩ := step j ds[j] δ1 hd hI
    have e3 := e1.same sm
    have td : Td (mask (msk (F.lp δ H1) δ1) H3) v ds[j] := ty _ (fun a m => e1.tracked a m) (fun a m => by
      rcases mem_msk.mp m with z | z | z
      · exact .inl (List.mem_append_left _ (List.mem_append_left _ z))
      · rcases e1.fr a z with z | z
        · exact .inl (List.mem_append_left _ z)
        · exact .inr z
      · exact .inl (List.mem_append_right _ z)) _ hd
    refine pt.ok e3 td hb fun σ4 _ _ e4 => ?_
    refine wss_mono (body (F.lp δ H1) σ4 H3 e4 (takes_lp en1 tk)) ⟨fun σ5 H5 q => q, fun v H5 ⟨k, g, d, t, q⟩ => ⟨kp_up en1 k, g, d, t, q⟩, fun σ5 H5 ⟨d, e, q⟩ => ⟨d, en1.up e, q⟩, fun σ5 H5 q => q⟩
  · rintro σ2 H2 ⟨δ1, e1, hI⟩
    exact ⟨δ1, en1.up e1, fin δ1 hI⟩
/-- a while: I by a measure and what the names hold -/
theorem ps_while {body : List Stmt} (hp : PassesOwn (model X.prog X.w) X.A X.env X.xe) (I : Nat → List Slot → Prop) (m : Nat) (h0 : I m δ)
    (h : ∀ m δ1, I m δ1 → Pt X A.ex δ1 c fun t => if t = true then Pss X δ1 body { nx := fun δ2 => ∃ m', m' < m ∧ I m' δ2, ct := fun δ2 => ∃ m', m' < m ∧ I m' δ2, bk := A.nx, rt := A.rt, ex := A.ex } else A.nx δ1) : Ps X δ (.While c body [] pos) A := fun F σ H en tk => by
  refine ws_of (L2.ps_while hp pt_self pss_self) ⟨fun m σ1 H1 => ∃ δ1, En X.K (F.lp δ H) δ1 σ1 H1 ∧ I m δ1, ⟨m, δ, en.down, h0⟩, ?_⟩
  rintro m σ1 H1 ⟨δ1, e1, hI⟩
  refine wt_mono (h m δ1 hI (F.lp δ H) σ1 H1 e1 (takes_lp en tk)) fun t H2 ⟨e2, k2, q⟩ => ?_
  cases t with
  | true =>
    refine ⟨fun σ' H' => ∃ δ2, En X.K (F.lp δ H) δ2 σ' H' ∧ ∃ m', m' < m ∧ I m' δ2, fun σ' H' ⟨δ2, e, m', hm, hI'⟩ => ⟨m', hm, δ2, e, hI'⟩, ?_⟩
    exact wss_mono (q (F.lp δ H) σ1 H2 e2 (takes_lp en tk)) ⟨fun σ5 H5 q => q, fun v H5 ⟨k, g, d, t, q⟩ => ⟨kp_up en k, g, d, t, q⟩, fun σ5 H5 ⟨d, e, q⟩ => ⟨d, en.up e, q⟩, fun σ5 H5 q => q⟩
  | false => exact ⟨δ1, en.up e2, q⟩

/-! ### raise -/
theorem ps_raise {C : Addr} {bmB : List Value} {B newId initId : String} {z : Str} {j : Nat} {p1 p2 p3 : Pos} (hc : X.calm = true) (Fb : ExcBaseFacts B newId initId bmB) (q : PySem.W.excIn X.K C bmB newId = true) (gC : X.mg x = some (.ref C)) (kC : PySem.W.keepIn X.K (.ref C) = true) (r : Raises X (.ref C)) (hg : Gl X x)
    (h : A.ex (.ref C)) (hdb : (x == ("__debug__" : Str)) = false := by decide) : Ps X δ (.Raise (some (.Call (.Name x p1) [.Constant (.str z) j p2] [] p3)) none pos) A := fun F σ H en tk =>
  ws_of (L2N.ps_raise hc tk (L2N.pmk_own Fb q gC kC r hg hdb)) (Wx.of en (.refl _) en.glo h σ)

/-! ### a def keeps its contract -/
theorem start_get {N : List Str} {vs : List V} {i : Nat} : (L2.start N vs)[i]?.join = vs[i]? := by
  unfold L2.start
  by_cases h : i < vs.length
  · rw [List.getElem?_append_left (by rw [List.length_map]; exact h), List.getElem?_map]
    rw [List.getElem?_eq_getElem h]; rfl
  · rw [List.getElem?_append_right (by rw [List.length_map]; omega), List.getElem?_eq_none (show vs.length ≤ i by omega), List.getElem?_replicate]
    split <;> rfl
theorem owns_args {K : PySem.W.Frag} {B M : List Addr} {H : Hp} : ∀ {ss : List Slot} {vs : List V} {n : Nat}, SArgs K B M H ss vs → owns (ss ++ List.replicate n .un) = []
  | [], _, n, _ => by
    rename_i h
    clear h
    induction n with
    | zero => rfl
    | succ n ih => exact ih
  | s :: ss, _, n, .cons ⟨h, _⟩ r => by
    show List.filterMap Slot.ow (s :: (ss ++ List.replicate n .un)) = []
    rw [List.filterMap_cons, h]
    exact owns_args r
theorem sargs_len {K : PySem.W.Frag} {B M : List Addr} {H : Hp} : ∀ {ss : List Slot} {vs : List V}, SArgs K B M H ss vs → ss.length = vs.length
  | _, _, .nil => rfl
  | _, _, .cons _ r => by rw [List.length_cons, List.length_cons, sargs_len r]
theorem sargs_get {K : PySem.W.Frag} {B M : List Addr} {H : Hp} : ∀ {ss : List Slot} {vs : List V} {i : Nat} {s : Slot}, SArgs K B M H ss vs → ss[i]? = some s → SOk K B M H s vs[i]?
  | _, _, _, _, .nil, e => by simp at e
  | _, _, 0, _, .cons ⟨_, h⟩ _, e => by simp at e; subst e; exact h
  | _, _, i + 1, s, .cons _ r, e => sargs_get (i := i) r (by simpa using e)
theorem en_start {K : PySem.W.Frag} {B Z : List Addr} {H : Hp} {ss : List Slot} {vs : List V} {N : List Str} (g : Glo B Z H) (ha : SArgs K B (B ++ Z) H ss vs) (hN : vs.length ≤ N.length) (hz : ∀ a ∈ Z, a ∉ B) :
    En K { mu := B, h0 := H, B := B, Z := Z } (ss ++ List.replicate (N.length - ss.length) .un) (L2.start N vs) H := by
  have eo := owns_args (n := N.length - ss.length) ha
  have em : msk { mu := B, h0 := H, B := B, Z := Z } (ss ++ List.replicate (N.length - ss.length) .un) = B ++ Z := by
    unfold msk
    rw [eo]
    rfl
  have hl := sargs_len ha
  refine ⟨?_, fun i s e => ?_, by rw [eo]; exact .nil, fun a m => (nomatch (eo ▸ m : a ∈ ([] : List Addr))), fun a m => (nomatch (eo ▸ m : a ∈ ([] : List Addr))), fun a m => m, fun a m => hz a m, .refl _, ?_⟩
  · unfold L2.start
    rw [List.length_append, List.length_map, List.length_replicate, List.length_append, List.length_replicate, hl]
  · rw [em, start_get]
    by_cases h : i < ss.length
    · rw [List.getElem?_append_left h] at e
      exact sargs_get ha e
    · rw [List.getElem?_append_right (by omega), List.getElem?_replicate] at e
      split at e
      · cases e; exact True.intro
      · cases e
  · rw [eo]; exact g
end
end Tl

set_option linter.all false
set_option maxRecDepth 100000
set_option maxHeartbeats 4000000
namespace Tl
open PySem PySem.Spec PyProof.Rows L2
section
variable {P : Program} {w : World} {K : PySem.W.Frag} {mg : Str → Option Value} {base : Heap}
theorem fn_ok {S : Ct} {x qual : Str} {st : Stmt} {f : Addr} {fd : FuncData} {N ps : List Str} {n : Nat} (F : Fun K x qual st f fd) (Sc : FnScope N ps (defScope st)) (hN : ps.length ≤ N.length) (len : ∀ ss k ex, S ss k ex → ss.length = ps.length)
    (body : ∀ (cdv : Value) (A : Around) (outer : List Env) (s : Shared) (H : Hp) (E : XK) (ss : List Slot) (k : D → Prop) (ex : Value → Prop), Room n (A.deeper (envOfC qual (defScope st) s.heap.objs.size f cdv)) → S ss k ex →
      Pss (cxOf (L2N.CX P w) P w K mg base N qual (defScope st) f cdv A outer s H E) (ss ++ List.replicate (N.length - ps.length) .un) (defBody st) { nx := fun _ => k .none, rt := k, ex := ex }) :
    FnOk P w K mg base (L2N.CX P w) (n + 1) f fd ps (spS K S) := by
  refine okN F Sc (fun vs H Q E h => ?_) (fun cdv A outer s H vs Q E hr h => ?_)
  · obtain ⟨B, Z, ss, k, ex, g, hz, ha, hS, _⟩ := h
    rw [← sargs_len ha]
    exact len ss k ex hS
  · obtain ⟨B, Z, ss, k, ex, g, hz, ha, hS, hq, he⟩ := h
    have hl := len ss k ex hS
    have e := en_start (N := N) g ha (by rw [← sargs_len ha, hl]; exact hN) hz
    rw [hl] at e
    refine ⟨_, pss_self, wss_mono (body cdv A outer s H E ss k ex hr hS _ _ H e ((L2N.takes_of rfl rfl rfl rfl).imp ?_)) ⟨?_, ?_, ?_, ?_⟩⟩
    · rintro c d σ H' ⟨e1, k1, g1, h1⟩
      subst e1
      exact he c h1 H' k1 g1
    · rintro σ' H' ⟨δ', e', h'⟩
      exact hq _ h' _ _ e'.base (e'.glo.sub fun a m => List.mem_append_right _ m) .non
    · rintro v H' ⟨k1, g1, d, t, h'⟩
      exact hq d h' v H' k1 g1 t
    · rintro σ' H' ⟨δ', e', h'⟩
      exact h'
    · rintro σ' H' ⟨δ', e', h'⟩
      exact h'
end
theorem ite2b {c : Prop} {A B : Prop} [Decidable c] (h1 : c → A) (h2 : ¬ c → B) : if decide c = true then A else B := by
  by_cases h : c
  · rw [if_pos (decide_eq_true h)]; exact h1 h
  · rw [if_neg (by rw [decide_eq_true_iff]; exact h)]; exact h2 h
theorem iteB {b : Bool} {A B : Prop} (h1 : b = true → A) (h2 : b = false → B) : if b = true then A else B := by
  cases b
  · exact h2 rfl
  · exact h1 rfl

/-- a def stands at the name x -/
structure Df (K : PySem.W.Frag) (mg : Str → Option Value) (x : Str) (st : Stmt) (ps : List Str) : Prop where
  ex : ∃ (f : Addr) (fd : FuncData), Fun K x x st f fd ∧ mg x = some (.ref f) ∧ Binds K fd ps []
/-- .. and keeps the contract S -/
structure Ok (P : Program) (w : World) (K : PySem.W.Frag) (mg : Str → Option Value) (base : Heap) (n : Nat) (x : Str) (ps : List Str) (S : Ct) : Prop where
  ex : ∃ (f : Addr) (fd : FuncData), FnOk P w K mg base (L2N.CX P w) n f fd ps (spS K S) ∧ mg x = some (.ref f) ∧ PySem.W.keepIn K (.ref f) = true ∧ Binds K fd ps []
theorem ok_of {P : Program} {w : World} {K : PySem.W.Frag} {mg : Str → Option Value} {base : Heap} {S : Ct} {x : Str} {st : Stmt} {N ps : List Str} {n : Nat} (F : Df K mg x st ps) (Sc : FnScope N ps (defScope st)) (hN : ps.length ≤ N.length) (len : ∀ ss k ex, S ss k ex → ss.length = ps.length)
    (body : ∀ (f : Addr) (cdv : Value) (A : Around) (outer : List Env) (s : Shared) (H : Hp) (E : XK) (ss : List Slot) (k : D → Prop) (ex : Value → Prop), Room n (A.deeper (envOfC x (defScope st) s.heap.objs.size f cdv)) → S ss k ex →
      Pss (cxOf (L2N.CX P w) P w K mg base N x (defScope st) f cdv A outer s H E) (ss ++ List.replicate (N.length - ps.length) .un) (defBody st) { nx := fun _ => k .none, rt := k, ex := ex }) :
    Ok P w K mg base (n + 1) x ps S := by
  obtain ⟨f, fd, F, h1, h2⟩ := F.ex
  exact ⟨f, fd, fn_ok F Sc hN len (body f), h1, F.kp, h2⟩
section
variable {X : Cx} {ex : Value → Prop} {δ : List Slot} {e a b c : Expr} {es rest : List Expr} {pos p : Pos} {k : D → Prop} {x : Str} {i : Nat}
theorem pe_call {S : Ct} {m n : Nat} {ps : List Str} (G : Ok X.prog X.w X.K X.mg X.base n x ps S) (hr : Room m X.A) (hnm : n ≤ m)
    (h : Pa X ex δ (e :: es) fun ss => S ss k ex) (hg : Gl X x := by rfl) (hdb : (x == ("__debug__" : Str)) = false := by decide) (he : starEach (e :: es) X.env = (false, eval e X.env) :: starEach es X.env := by rfl) (hpl : (backTo pos (starEach es X.env)).any (·.1) = false := by rfl) :
    Pe X ex δ (.Call (.Name x p) (e :: es) [] pos) k := by
  obtain ⟨f, fd, G, h1, h2, h3⟩ := G.ex
  exact pe_fn G (hr.mono hnm) h1 h2 h3 h hg hdb he hpl
/-- a written power -/
theorem pe_powc {n m v : Int} {j1 j2 : Nat} {p1 p2 : Pos} (h1 : CPow n m) (h2 : n ^ m.toNat = v) (h : k (.int v)) : Pe X ex δ (.BinOp (.Constant (.int n) j1 p1) .Pow (.Constant (.int m) j2 p2) pos) k :=
  pe_pow (pe_i (pe_i ⟨n, m, rfl, rfl, h1, by rw [h2]; exact h⟩))
/-- any one of a list's items -/
theorem pe_pick (h : Pe X ex δ a fun x => Pe X ex δ b fun y => ∃ xs n, x = .list xs ∧ y = .int n ∧ 0 ≤ n ∧ n < xs.length ∧ ∀ d ∈ xs, k d) (hs : PlainIx b := by exact fun _ _ => rfl) : Pe X ex δ (.Subscript a b pos) k :=
  pe_ixL (h.mono fun _ h => h.mono fun _ ⟨xs, n, e1, e2, h1, h2, q⟩ => by
    have hl : n.toNat < xs.length := by omega
    refine ⟨xs, n, xs[n.toNat], e1, e2, ?_, q _ (List.getElem_mem hl)⟩
    show (ixN xs.length n).bind (fun j => xs[j]?) = _
    unfold ixN
    rw [if_pos h1, if_pos h2]
    simp [hl]) hs
theorem cutP (Pd : D → Prop) (h1 : Pe X ex δ e Pd) (h2 : ∀ d, Pd d → k d) : Pe X ex δ e k := h1.mono h2
theorem cutE (d : D) (h1 : Pe X ex δ e fun x => x = d) (h2 : k d) : Pe X ex δ e k := h1.mono fun x e => by rw [e]; exact h2
theorem cutT {k : Bool → Prop} (b : Bool) (h1 : Pt X ex δ e fun x => x = b) (h2 : k b) : Pt X ex δ e k := h1.mono fun x e => by rw [e]; exact h2
theorem cutTP {k : Bool → Prop} (Pb : Bool → Prop) (h1 : Pt X ex δ e Pb) (h2 : ∀ b, Pb b → k b) : Pt X ex δ e k := h1.mono h2
end
section
variable {X : Cx} {A : AE} {δ : List Slot} {st : Stmt} {rest : List Stmt}
theorem pss_seq (J : List Slot → Prop) (h1 : Ps X δ st { A with nx := J }) (h2 : ∀ δ', J δ' → Pss X δ' rest A) : Pss X δ (st :: rest) A :=
  pss_cons (h1.imp h2 (fun _ h => h) (fun _ h => h) (fun _ h => h) fun _ h => h)
end
/-! ### comprehensions whose items are functions, or have a property, of what is walked -/
section
variable {X : Cx} {ex : Value → Prop} {δ : List Slot} {k : D → Prop} {elt tg iter : Expr} {ifs : List Expr} {scope : Scope} {vs : List Nat} {pt : Pat}
abbrev blkX (X : Cx) (scope : Scope) (s : Shared) (H : Hp) (C : Addr) (cl : List (Str × Addr)) (fp : List Addr) : Cx := X.blk s H scope (compEnvC scope cl C X.env) fp
theorem take_succ_get {α : Type} {l : List α} {j : Nat} {x : α} (h : l[j]? = some x) : l.take (j + 1) = l.take j ++ [x] := by
  rw [List.take_add_one, h]; rfl
/-- [f x for x in ds if p x] -/
theorem lc_fm (f : D → D) (p : D → Bool)
    (h : Pi X ex δ false tg iter fun ds => ds.length ≤ 16777216 ∧ (∀ d ∈ ds, ∃ δ' : List Slot, pt.bind d (wipeS δ vs) = some δ' ∧ owns δ' = owns δ ∧
        (∀ (s : Shared) (H : Hp) (C : Addr) (cl : List (Str × Addr)) (fp : List Addr), Pts (blkX X scope s H C cl fp) nope δ' ifs fun b => b = p d) ∧
        (p d = true → ∀ (s : Shared) (H : Hp) (C : Addr) (cl : List (Str × Addr)) (fp : List Addr), Pe (blkX X scope s H C cl fp) nope δ' elt fun y => y = f d)) ∧ k (.list ((ds.filter p).map f))) : LcH X ex δ pt elt tg iter ifs scope vs k := by
  intro F σ H en tk
  refine wi_mono (h F σ H en tk) fun J H1 ⟨en1, k1, ds, yl, hz, body, q⟩ => ⟨en1, k1, ds, yl, hz, fun j acc => acc = ((ds.take j).filter p).map f, rfl, fun j d acc hd hI => ?_, fun acc hI _ => ?_⟩
  · obtain ⟨δ', h1, h2, h3, h4⟩ := body d (List.mem_of_getElem? hd)
    refine ⟨δ', fun b => b = p d, h1, h2, h3, fun e => ?_, fun e s H C cl fp => (h4 e.symm s H C cl fp).mono fun y ey => ?_⟩
    · show acc = ((ds.take (j + 1)).filter p).map f
      rw [take_succ_get hd, List.filter_append, List.map_append, hI]
      simp [← e]
    · show acc ++ [y] = ((ds.take (j + 1)).filter p).map f
      rw [take_succ_get hd, List.filter_append, List.map_append, hI, ey]
      simp [← e]
  · have hI : acc = ((ds.take ds.length).filter p).map f := hI
    rw [List.take_length] at hI
    rw [hI]
    exact q
/-- [f x for x in ds] -/
theorem lc_mp (f : D → D)
    (h : Pi X ex δ false tg iter fun ds => ds.length ≤ 16777216 ∧ (∀ d ∈ ds, ∃ δ' : List Slot, pt.bind d (wipeS δ vs) = some δ' ∧ owns δ' = owns δ ∧
        ∀ (s : Shared) (H : Hp) (C : Addr) (cl : List (Str × Addr)) (fp : List Addr), Pe (blkX X scope s H C cl fp) nope δ' elt fun y => y = f d) ∧ k (.list (ds.map f))) : LcH X ex δ pt elt tg iter [] scope vs k :=
  lc_fm f (fun _ => true) (fun F σ H en tk => wi_mono (h F σ H en tk) fun J H1 ⟨en1, k1, ds, yl, hz, body, q⟩ => ⟨en1, k1, ds, yl, hz, fun d hd => by
    obtain ⟨δ', h1, h2, h3⟩ := body d hd
    exact ⟨δ', h1, h2, fun _ _ _ _ _ => pts_0 rfl, fun _ => h3⟩, by rw [List.filter_eq_self.mpr (fun _ _ => rfl)]; exact q⟩)
/-- [.. for x in ds]: each item has R -/
theorem lc_al (R : D → D → Prop)
    (h : Pi X ex δ false tg iter fun ds => ds.length ≤ 16777216 ∧ (∀ d ∈ ds, ∃ δ' : List Slot, pt.bind d (wipeS δ vs) = some δ' ∧ owns δ' = owns δ ∧
        ∀ (s : Shared) (H : Hp) (C : Addr) (cl : List (Str × Addr)) (fp : List Addr), Pe (blkX X scope s H C cl fp) nope δ' elt fun y => R d y) ∧ ∀ ys, ys.length = ds.length → (∀ y ∈ ys, ∃ d ∈ ds, R d y) → k (.list ys)) : LcH X ex δ pt elt tg iter [] scope vs k := by
  intro F σ H en tk
  refine wi_mono (h F σ H en tk) fun J H1 ⟨en1, k1, ds, yl, hz, body, q⟩ => ⟨en1, k1, ds, yl, hz, fun j acc => acc.length = j ∧ ∀ y ∈ acc, ∃ d ∈ ds, R d y, ⟨rfl, fun _ h => nomatch h⟩, fun j d acc hd hI => ?_, fun acc hI _ => q acc hI.1 hI.2⟩
  obtain ⟨δ', h1, h2, h4⟩ := body d (List.mem_of_getElem? hd)
  refine ⟨δ', fun b => b = true, h1, h2, fun _ _ _ _ _ => pts_0 rfl, fun e => (nomatch e), fun e s H C cl fp => (h4 s H C cl fp).mono fun y ey => ?_⟩
  refine ⟨by rw [List.length_append, hI.1]; rfl, fun z hz => ?_⟩
  rcases List.mem_append.mp hz with h | h
  · exact hI.2 z h
  · rw [List.mem_singleton.mp h]
    exact ⟨d, List.mem_of_getElem? hd, ey⟩
end
end Tl

set_option linter.all false
set_option maxRecDepth 100000
set_option maxHeartbeats 4000000
namespace Tl
open PySem PySem.Spec PyProof.Rows L2
def AllInt (ds : List D) : Prop := ∃ ns : List Int, ds = ns.map .int
theorem AllInt.nil : AllInt [] := ⟨[], rfl⟩
theorem AllInt.snoc {ds : List D} {n : Int} (h : AllInt ds) : AllInt (ds ++ [.int n]) := by
  obtain ⟨ns, rfl⟩ := h
  exact ⟨ns ++ [n], by rw [List.map_append]; rfl⟩
section
variable {X : Cx} {ex : Value → Prop} {A : AE} {δ : List Slot} {e a b c : Expr} {es rest : List Expr} {pos p : Pos} {k : D → Prop} {x : Str} {i : Nat}
/-! ### the script -/
theorem sql_len {K : PySem.W.Frag} {H : Hp} : True := trivial
/-- len(script) -/
theorem pe_lenS (i : Nat) {ns : List Int} {p2 : Pos} (hm : X.mg "len" = none) (hi : δ[i]? = some (.scr ns)) (h : k (.int ns.length)) (hN : X.N[i]? = some x := by rfl) (hv : Vis X.env.scope x := by first | exact Or.inl rfl | exact Or.inr (Or.inl rfl) | exact Or.inr (Or.inr rfl))
    (hd : (x == ("__debug__" : Str)) = false := by decide) (hcd : (x == ("__classdict__" : Str)) = false := by decide) (hg : Gl X "len" := by rfl)
    (he : starEach [.Name x p2] X.env = (false, eval (.Name x p2) X.env) :: starEach [] X.env := by rfl) (hpl : (backTo pos (starEach [] X.env)).any (·.1) = false := by rfl) : Pe X ex δ (.Call (.Name "len" p) [.Name x p2] [] pos) k := fun F σ H en tk => by
  obtain ⟨w, e1, m⟩ := en.scrAt hi
  refine we_of (pe_callB call_len_seq hg hm boot_len (L2.pa_cons (pe_var hN hv hd hcd) L2.pa_nil he) (by decide) (by decide) he hpl) ⟨_, e1, w, _, rfl, .inl (sql_mask m), en, .refl _, _, .int _, ?_⟩
  rw [List.length_map]
  exact h
/-- script[k] -/
theorem pe_ixS (i : Nat) {ns : List Int} {p2 : Pos} (hi : δ[i]? = some (.scr ns)) (h : Pe X ex δ b fun y => ∃ n : Int, y = .int n ∧ 0 ≤ n ∧ n < ns.length ∧ ∀ m, k (.int m)) (hN : X.N[i]? = some x := by rfl) (hv : Vis X.env.scope x := by first | exact Or.inl rfl | exact Or.inr (Or.inl rfl) | exact Or.inr (Or.inr rfl))
    (hd : (x == ("__debug__" : Str)) = false := by decide) (hcd : (x == ("__classdict__" : Str)) = false := by decide) (hs : PlainIx b := by exact fun _ _ => rfl) : Pe X ex δ (.Subscript (.Name x p2) b pos) k := fun F σ H en tk => by
  obtain ⟨w, e1, m⟩ := en.scrAt hi
  refine we_of (pe_ix ix_list (pe_var hN hv hd hcd) pe_self hs) ⟨_, e1, we_mono (h F σ H en tk) fun v H1 ⟨en1, k1, d, t, n, e2, h0, h1, q⟩ => ?_⟩
  subst e2
  cases t
  obtain ⟨w', e3, m2⟩ := en1.scrAt hi
  rw [e1] at e3
  cases e3
  have hl : n.toNat < ns.length := by omega
  refine ⟨w, _, n, .int ns[n.toNat], rfl, rfl, sql_mask m2, ?_, en1, k1, _, .int _, q _⟩
  show (ixN _ n).bind _ = _
  unfold ixN
  rw [if_pos h0, if_pos (by rw [List.length_map]; exact h1)]
  simp [hl]

/-! ### a bag -/
theorem En.bagHas {K : PySem.W.Frag} {F : Fm} {σ : L2.St} {H : Hp} (en : En K F δ σ H) {q : Addr} (hi : δ[i]? = some (.bag q)) : σ[i]? = some (some (.ref q)) ∧ q ∈ F.B ∧ Bag (msk F δ) H q := by
  obtain ⟨e1, m, hc⟩ := en.bagAt hi
  exact ⟨e1, m, (en.glo.bags q m).bag hc⟩
/-- bag[1] -/
theorem pe_bag1 (i : Nat) {q : Addr} {p2 p3 : Pos} {j : Nat} (hi : δ[i]? = some (.bag q)) (h : ∀ n, k (.int n)) (hN : X.N[i]? = some x := by rfl) (hv : Vis X.env.scope x := by first | exact Or.inl rfl | exact Or.inr (Or.inl rfl) | exact Or.inr (Or.inr rfl))
    (hd : (x == ("__debug__" : Str)) = false := by decide) (hcd : (x == ("__classdict__" : Str)) = false := by decide) : Pe X ex δ (.Subscript (.Name x p2) (.Constant (.int 1) j p3) pos) k := fun F σ H en tk => by
  obtain ⟨e1, m, dr, n, ns, h1, h2, h3⟩ := en.bagHas hi
  exact we_of (pe_ix ix_list (pe_var hN hv hd hcd) L2.pe_int (fun _ _ => rfl)) ⟨_, e1, q, _, 1, _, rfl, rfl, .of h1, rfl, en, .refl _, _, .int n, h n⟩
/-- bag[1] = e -/
theorem ps_bag1 (i : Nat) {q : Addr} {p2 p3 p4 : Pos} {j : Nat} (hi : δ[i]? = some (.bag q)) (h : Pe X A.ex δ e fun d => ∃ n, d = .int n ∧ A.nx δ) (hN : X.N[i]? = some x := by rfl) (hv : Vis X.env.scope x := by first | exact Or.inl rfl | exact Or.inr (Or.inl rfl) | exact Or.inr (Or.inr rfl))
    (hd : (x == ("__debug__" : Str)) = false := by decide) (hcd : (x == ("__classdict__" : Str)) = false := by decide)
    (hs : swapsWithSole [.Subscript (.Name x p2) (.Constant (.int 1) j p3) p4] e pos.line X.env = pure false := by rfl) (hw : swappedStores [.Subscript (.Name x p2) (.Constant (.int 1) j p3) p4] e X.env = pure none := by rfl)
    (h1 : (assignEach [.Subscript (.Name x p2) (.Constant (.int 1) j p3) p4] X.env).map (·.2) = [assign (.Subscript (.Name x p2) (.Constant (.int 1) j p3) p4) X.env] := by rfl)
    (ha : ∀ v, assign (.Subscript (.Name x p2) (.Constant (.int 1) j p3) p4) X.env v = (do
      let ov ← holding [v] (eval (.Name x p2) X.env)
      let iv ← holding [v, ov] (eval (.Constant (.int 1) j p3) X.env)
      standAt p4
      holding [v, ov, iv] (setItem ov iv v)
      release [v, ov, iv] []) := by intro _; rfl) : Ps X δ (.Assign [.Subscript (.Name x p2) (.Constant (.int 1) j p3) p4] e pos) A := fun F σ H en tk => by
  refine ws_of (ps_asg pe_self (pg_sub (pe_var hN hv hd hcd) L2.pe_int set_list ha) hs hw h1) (we_mono (h F σ H en tk) fun v H1 ⟨en1, k1, d, t, n, e2, nx⟩ => ?_)
  subst e2
  cases t
  obtain ⟨e1, m, dr, n0, ns, h1, h2, h3⟩ := en1.bagHas hi
  refine ⟨_, e1, q, _, 1, 1, rfl, rfl, h1, rfl, δ, en1.step (fun a o na e => ?_) ⟨fun a ma => ?_, fun b mb => ?_, fun a ma => ?_⟩, nx⟩
  · rw [upd_ne (fun z => na (by rw [z]; exact m))]
    exact e
  · by_cases z : a = q
    · rw [z, upd_same]; exact nc_lst
    · rw [upd_ne z]
      exact en1.glo.there a ma
  · have km : ∀ a o, mask (msk F δ) H1 a = some o → mask (msk F δ) (upd H1 q (.lst [.ref dr, .int n])) a = some o := fun a o e => by
      obtain ⟨na, e⟩ := of_mask e
      exact mask_of na (by rw [upd_ne (fun z => na (by rw [z]; exact mem_msk.mpr (.inl m)))]; exact e)
    by_cases z : b = q
    · subst z
      exact .inl ⟨(en1.bagAt hi).2.2, dr, n, ns, upd_same, km _ _ h2, h3⟩
    · exact (en1.glo.bags b mb).kp (upd_ne z) km
  · by_cases z : a = q
    · exact ⟨_, by rw [z, upd_same]⟩
    · obtain ⟨xs, w⟩ := en1.glo.zl a ma
      exact ⟨xs, by rw [upd_ne z]; exact w⟩
/-- bag[0][bag[1] % len(bag[0])] -/
theorem pe_draw (i : Nat) {q : Addr} {p1 p2 p3 p4 p5 p6 p8 p9 p10 p11 p12 p13 : Pos} {j1 j2 j3 : Nat} (hm : X.mg "len" = none) (hi : δ[i]? = some (.bag q)) (h : ∀ n, k (.int n)) (hN : X.N[i]? = some x := by rfl) (hv : Vis X.env.scope x := by first | exact Or.inl rfl | exact Or.inr (Or.inl rfl) | exact Or.inr (Or.inr rfl))
    (hd : (x == ("__debug__" : Str)) = false := by decide) (hcd : (x == ("__classdict__" : Str)) = false := by decide) (hg : Gl X "len" := by rfl)
    (he : starEach [.Subscript (.Name x p9) (.Constant (.int 0) j3 p10) p11] X.env = (false, eval (.Subscript (.Name x p9) (.Constant (.int 0) j3 p10) p11) X.env) :: starEach [] X.env := by rfl) (hpl : (backTo p12 (starEach [] X.env)).any (·.1) = false := by rfl) :
    Pe X ex δ (.Subscript (.Subscript (.Name x p1) (.Constant (.int 0) j1 p2) p3) (.BinOp (.Subscript (.Name x p4) (.Constant (.int 1) j2 p5) p6) .Mod (.Call (.Name "len" p8) [.Subscript (.Name x p9) (.Constant (.int 0) j3 p10) p11] [] p12) p13) pos) k := fun F σ H en tk => by
  obtain ⟨e1, m, dr, n, ns, h1, h2, h3, h4⟩ := en.bagHas hi
  have h2 := mask_le _ _ h2
  refine we_of (pe_ix ix_list (pe_ix ix_list (pe_var hN hv hd hcd) L2.pe_int (fun _ _ => rfl))
    (L2.pe_op op_mod (pe_ix ix_list (pe_var hN hv hd hcd) L2.pe_int (fun _ _ => rfl)) (pe_callB call_len_seq hg hm boot_len (L2.pa_cons (pe_ix ix_list (pe_var hN hv hd hcd) L2.pe_int (fun _ _ => rfl)) L2.pa_nil he) (by decide) (by decide) he hpl)) (fun _ _ => rfl)) ?_
  have hl : 0 < ns.length := List.length_pos_iff.mpr h3
  refine ⟨_, e1, q, _, 0, .ref dr, rfl, rfl, .of h1, rfl, _, e1, q, _, 1, .int n, rfl, rfl, .of h1, rfl, _, e1, q, _, 0, .ref dr, rfl, rfl, .of h1, rfl, dr, _, rfl, .inl (.of h2), n, _, rfl, rfl, by rw [List.length_map]; omega, ?_⟩
  rw [List.length_map]
  have b1 : 0 ≤ n % (ns.length : Int) := Int.emod_nonneg _ (by omega)
  have b2 : n % (ns.length : Int) < (ns.length : Int) := Int.emod_lt_of_pos _ (by omega)
  have hl2 : (n % (ns.length : Int)).toNat < ns.length := by omega
  refine ⟨dr, _, _, .int ns[(n % (ns.length : Int)).toNat], rfl, rfl, .of h2, ?_, en, .refl _, _, .int _, h _⟩
  show (ixN _ _).bind _ = _
  unfold ixN
  rw [if_pos b1, if_pos (by rw [List.length_map]; exact b2)]
  simp [hl2]
end
/-! ### the bags of the script -/
/-- a new bag -/
structure NewBag (H H' : Hp) (b : Addr) : Prop where
  new : H b = none
  has : ∃ (dr : Addr) (n : Int) (ns : List Int), H' b = some (.lst [.ref dr, .int n]) ∧ H' dr = some (.lst (ns.map V.int)) ∧ ns ≠ [] ∧ ns.length ≤ 1000
def spBag (K : PySem.W.Frag) : Sp := fun vs H Q _ => ∃ (a : Addr) (ns : List Int) (i : Int), vs = [.ref a, .int i] ∧ SqL K H a (ns.map V.int) ∧ 0 ≤ i ∧ ∀ (p : Addr) (H' : Hp), Same H H' → NewBag H H' p → Q (.ref p) H'
def spBags (K : PySem.W.Frag) : Sp := fun vs H Q _ => ∃ (a : Addr) (ns : List Int) (i : Int), vs = [.ref a, .int i] ∧ SqL K H a (ns.map V.int) ∧ 0 ≤ i ∧ i ≤ 1000 ∧
  ∀ (p : Addr) (bs : List Addr) (H' : Hp), Same H H' → H p = none → H' p = some (.lst (bs.map V.ref)) → p ∉ bs → bs.Nodup → (∀ b ∈ bs, NewBag H H' b) → Q (.ref p) H'
theorem NewBag.same {H H' H'' : Hp} {b : Addr} (x : NewBag H H' b) (s : Same H' H'') : NewBag H H'' b := by
  obtain ⟨n, dr, m, ns, h1, h2, h3⟩ := x
  exact ⟨n, dr, m, ns, s _ _ h1, s _ _ h2, h3⟩
theorem NewBag.bag {H H' : Hp} {b : Addr} {bs T : List Addr} (x : NewBag H H' b) (all : ∀ b ∈ bs, NewBag H H' b) (hT : ∀ p ∈ T, ∃ ps, H' p = some (.tbl ps)) : Bag ((bs ++ T) ++ []) H' b := by
  obtain ⟨n, dr, m, ns, h1, h2, h3, h4⟩ := x
  refine ⟨dr, m, ns, h1, mask_of (fun z => ?_) h2, h3, h4⟩
  rw [List.append_nil] at z
  rcases List.mem_append.mp z with z | z
  · obtain ⟨_, dr', m', ns', g1, _⟩ := all dr z
    rw [h2] at g1
    have g1 := Option.some.inj g1
    injection g1 with g1
    cases ns with
    | nil => exact h3 rfl
    | cons c r => cases g1
  · obtain ⟨ps, g1⟩ := hT dr z
    rw [h2] at g1
    cases g1

theorem En.only {K : PySem.W.Frag} {F : Fm} {δ : List Slot} {σ : L2.St} {H : Hp} {s : Slot} (en : En K F δ σ H) (h : δ[0]? = some s) (hs : s.ow = none) : En K F (s :: List.replicate (δ.length - 1) .un) σ H := by
  have eo : owns (s :: List.replicate (δ.length - 1) .un) = [] := by
    show List.filterMap Slot.ow (s :: List.replicate (δ.length - 1) .un) = []
    rw [List.filterMap_cons, hs]
    generalize δ.length - 1 = n
    induction n with
    | zero => rfl
    | succ n ih => exact ih
  have hl : 0 < δ.length := (List.getElem?_eq_some_iff.mp h).1
  have sub : ∀ a ∈ owns (s :: List.replicate (δ.length - 1) .un), a ∈ owns δ := fun a m => by rw [eo] at m; cases m
  refine ⟨by rw [en.len, List.length_cons, List.length_replicate]; omega, fun i t e => ?_, by rw [eo]; exact .nil, fun a m => en.dj a (sub a m), fun a m => en.fr a (sub a m), en.bm, en.zm, en.base, en.glo.sub fun a m => ?_⟩
  · cases i with
    | zero =>
      have e : s = t := by simpa using e
      subst e
      exact (en.sl 0 s h).kp (fun _ _ _ => rfl) (mask_sub (msk_sub sub))
    | succ i =>
      have e : (List.replicate (δ.length - 1) Slot.un)[i]? = some t := by simpa using e
      rw [List.getElem?_replicate] at e
      split at e
      · cases e; exact True.intro
      · cases e
  · exact (List.mem_append.mp m).elim (fun m => List.mem_append_left _ (sub a m)) fun m => List.mem_append_right _ m
/-- the contract of _law_bags -/
structure OkBags (P : Program) (w : World) (K : PySem.W.Frag) (mg : Str → Option Value) (base : Heap) (n : Nat) : Prop where
  ex : ∃ (f : Addr) (fd : FuncData), FnOk P w K mg base (L2N.CX P w) n f fd ["script", "limit"] (spBags K) ∧ mg "_law_bags" = some (.ref f) ∧ PySem.W.keepIn K (.ref f) = true ∧ Binds K fd ["script", "limit"] []
/-- a law's body: for bag in _law_bags(script, m): body; then the rest. Every turn begins with the script alone -/
theorem law_run {X : Cx} {A : AE} {pos p p2 p3 p4 p5 : Pos} {y : Str} {j j2 : Nat} {m : Int} {body rest : List Stmt} {n n2 N : Nat} {ns : List Int} (T : List Addr) (G : OkBags X.prog X.w X.K X.mg X.base n) (hr : Room n2 X.A) (hn : n ≤ n2)
    (hp : PassesOwn (model X.prog X.w) X.A X.env X.xe) (hc : X.calm = true) (hN : X.N.Nodup) (hm0 : 0 ≤ m) (hm1 : m ≤ 1000) (hj0 : 0 < j) (ha : A.ex = nope)
    (step : ∀ b, Pss X ((Slot.scr ns :: List.replicate N .un).set j (.bag b)) body { nx := fun δ => δ[0]? = some (.scr ns) ∧ δ.length = N + 1, ct := fun δ => δ[0]? = some (.scr ns) ∧ δ.length = N + 1, rt := A.rt })
    (done : Pss X (Slot.scr ns :: List.replicate N .un) rest A)
    {a : Addr} {H : Hp} {σ : L2.St} (gT : Glo T [] H) (hT2 : ∀ p ∈ T, 2 ≤ T.count p) (hσ : σ.length = N + 1) (h0 : σ[0]? = some (some (.ref a))) (hS : SqL X.K H a (ns.map V.int)) (tk : L2N.Takes X (fun _ _ _ _ => False))
    (hj : X.N[j]? = some y := by rfl) (hNi : X.N[0]? = some ("script" : Str) := by rfl) (hy : Loc X.env.scope y := by first | exact Or.inl rfl | exact Or.inr rfl) (hf : X.fn y = true ∨ X.env.scope.names.lookup y = some .local := by first | exact .inl rfl | exact .inr rfl | assumption)
    (hv : Vis X.env.scope "script" := by first | exact Or.inl rfl | exact Or.inr (Or.inl rfl) | exact Or.inr (Or.inr rfl)) (hg : Gl X "_law_bags" := by rfl)
    (he : starEach [.Name "script" p3, .Constant (.int m) j2 p4] X.env = (false, eval (.Name "script" p3) X.env) :: starEach [.Constant (.int m) j2 p4] X.env := by rfl) (he2 : starEach [.Constant (.int m) j2 p4] X.env = (false, eval (.Constant (.int m) j2 p4) X.env) :: starEach [] X.env := by rfl)
    (hpl : (backTo p5 (starEach [.Constant (.int m) j2 p4] X.env)).any (·.1) = false := by rfl)
    (hs : ∀ x, foldedSetIterable (.Call (.Name "_law_bags" p2) [.Name "script" p3, .Constant (.int m) j2 p4] [] p5) X.env x = pure x := by intro _; rfl) :
    WSs X (.For (.Name y p) (.Call (.Name "_law_bags" p2) [.Name "script" p3, .Constant (.int m) j2 p4] [] p5) body [] pos :: rest) (cz X.K { mu := T, h0 := H, B := T, Z := [] } A) σ H := by
  obtain ⟨f, fd, G, h1, h2, h3⟩ := G.ex
  have eo : owns (Slot.scr ns :: List.replicate N .un) = [] := by
    induction N with
    | zero => rfl
    | succ n ih => exact (show owns (Slot.scr ns :: .un :: List.replicate n .un) = [] from (by
        have : ∀ k, owns (List.replicate k Slot.un) = [] := by
          intro k
          induction k with
          | zero => rfl
          | succ k ih => exact ih
        exact this (n + 1)))
  have takesF : ∀ F : Fm, L2N.Takes X (Wx F nope) := fun F => tk.imp fun _ _ _ _ z => z.2.2.2
  refine wss_of (L2.pss_cons (L2.ps_for hp hc (pi_list (L2.pe_call G (hr.mono hn) hg h1 h2 h3 .nil (passesW (F := { mu := T, h0 := H, B := T, Z := [] }) (ex := nope) (takesF _)) (L2.pa_cons (pe_var hNi hv) (L2.pa_cons L2.pe_int L2.pa_nil he2) he) (by decide) he hpl)) (pg_name hN hj hy hf) pss_self hs) pss_self) ?_
  refine ⟨_, h0, ?_⟩
  refine ⟨a, ns, m, rfl, hS, hm0, hm1, fun L bs H1 sm hL eL nL nd hb => ⟨L, rfl, ⟨_, .of eL⟩, ?_⟩⟩
  have hTt : ∀ p ∈ T, ∃ ps, H p = some (.tbl ps) := fun p m => by
    rcases gT.bags p m with ⟨z, _⟩ | ⟨_, ps, z, _⟩
    · have := hT2 p m; omega
    · exact ⟨ps, z⟩
  have hTt1 : ∀ p ∈ T, ∃ ps, H1 p = some (.tbl ps) := fun p m => by
    obtain ⟨ps, z⟩ := hTt p m
    exact ⟨ps, sm _ _ z⟩
  have nT : ∀ b ∈ bs, b ∉ T := fun b m z => by
    obtain ⟨ps, q⟩ := hTt b z
    have q2 := (hb b m).new
    rw [q] at q2; cases q2
  have LT : L ∉ T := fun z => by
    obtain ⟨ps, q⟩ := hTt L z
    rw [hL] at q; cases q
  have hBs : ∀ b ∈ bs ++ T, BagK ((bs ++ T).count b) ((bs ++ T) ++ []) H1 b := fun b m => by
    rw [List.count_append]
    by_cases z : b ∈ bs
    · refine .inl ⟨?_, (hb b z).bag hb hTt1⟩
      have h1 : T.count b = 0 := List.count_eq_zero.mpr (nT b z)
      have h2 := List.nodup_iff_count.mp nd b
      omega
    · have h1 : bs.count b = 0 := List.count_eq_zero.mpr z
      rw [h1, Nat.zero_add]
      have mT : b ∈ T := (List.mem_append.mp m).resolve_left z
      obtain ⟨o, ho⟩ := (gT.bags b mT).some
      refine (gT.bags b mT).kp ((sm _ _ ho).trans ho.symm) fun a' o' e => ?_
      obtain ⟨n1, e⟩ := of_mask e
      refine mask_of (fun m => ?_) (sm _ _ e)
      rw [List.append_nil] at m n1
      rcases List.mem_append.mp m with m | m
      · have q2 := (hb a' m).new
        rw [e] at q2; cases q2
      · exact n1 m
  have hF : ∀ {δ' : List Slot} {σ' : L2.St} {H' : Hp}, En X.K { mu := bs ++ T, h0 := H1, B := bs ++ T, Z := [] } δ' σ' H' → δ'[0]? = some (.scr ns) → δ'.length = N + 1 → En X.K { mu := bs ++ T, h0 := H1, B := bs ++ T, Z := [] } (Slot.scr ns :: List.replicate N .un) σ' H' := fun {δ' σ' H'} e h hl => by
    have := e.only h rfl
    rw [hl] at this
    exact this
  have hback : ∀ {σ' : L2.St} {H' : Hp}, En X.K { mu := bs ++ T, h0 := H1, B := bs ++ T, Z := [] } (Slot.scr ns :: List.replicate N .un) σ' H' → En X.K { mu := T, h0 := H, B := T, Z := [] } (Slot.scr ns :: List.replicate N .un) σ' H' := fun {σ' H'} e => by
    have em : msk { mu := T, h0 := H, B := T, Z := [] } (Slot.scr ns :: List.replicate N .un) = T ++ [] := by unfold msk; rw [eo]; rfl
    have em2 : msk { mu := bs ++ T, h0 := H1, B := bs ++ T, Z := [] } (Slot.scr ns :: List.replicate N .un) = (bs ++ T) ++ [] := by unfold msk; rw [eo]; rfl
    have sub : ∀ a ∈ T ++ ([] : List Addr), a ∈ (bs ++ T) ++ ([] : List Addr) := fun a m => by
      rw [List.append_nil] at *
      exact List.mem_append_right _ m
    refine ⟨e.len, fun i s h => ?_, e.nd, fun a m => (nomatch (eo ▸ m : a ∈ ([] : List Addr))), fun a m => (nomatch (eo ▸ m : a ∈ ([] : List Addr))), fun a m => m, fun a m => (nomatch m), fun a o nm h => e.base a o (fun z => ?_) (sm a o h), ?_⟩
    · rw [em]
      have q := e.sl i s h
      rw [em2] at q
      cases i with
      | zero =>
        have h : Slot.scr ns = s := by simpa using h
        subst h
        exact q.kp (fun _ _ z => nomatch z) (mask_sub sub)
      | succ i =>
        have h : (List.replicate N Slot.un)[i]? = some s := by simpa using h
        rw [List.getElem?_replicate] at h
        split at h
        · cases h; exact True.intro
        · cases h
    · rcases List.mem_append.mp z with z | z
      · have q := (hb a z).new
        exact nomatch (show some o = none from h.symm.trans q)
      · exact nm z
    · have g := e.glo
      rw [eo] at g ⊢
      refine ⟨fun a m => g.there a (sub a m), fun b m => ?_, fun a m => by simp at m⟩
      have q := g.bags b (List.mem_append_right _ m)
      have ec : (bs ++ T).count b = T.count b := by
        rw [List.count_append, List.count_eq_zero.mpr (fun z => nT b z m), Nat.zero_add]
      rw [← ec]
      exact q.kp rfl (mask_sub sub)
  refine for_it (n := bs.length) (tb := WSs X body) (D := { cz X.K { mu := T, h0 := H, B := T, Z := [] } A with nx := WSs X rest (cz X.K { mu := T, h0 := H, B := T, Z := [] } A) })
    (Pv := fun _ σ' H' => En X.K { mu := bs ++ T, h0 := H1, B := bs ++ T, Z := [] } (Slot.scr ns :: List.replicate N .un) σ' H') (G := Kp (bs ++ T) H1) (Y := YAt (bs.map V.ref)) ?_ ?_ (fun _ _ _ _ e => e.base) ?_ ?_
  · have := (walk_list (K := X.K) (a := L) (xs := bs.map V.ref)).mono (G' := Kp (bs ++ T) H1) (Y' := YAt (bs.map V.ref)) (fun H' k => .of (k L _ (fun z => (List.mem_append.mp z).elim nL LT) eL)) fun _ _ _ _ _ _ y => y
    rw [List.length_map] at this
    exact this
  · have em : msk { mu := bs ++ T, h0 := H1, B := bs ++ T, Z := [] } (Slot.scr ns :: List.replicate N .un) = (bs ++ T) ++ [] := by unfold msk; rw [eo]; rfl
    refine ⟨by rw [hσ, List.length_cons, List.length_replicate], fun i s h => ?_, by rw [eo]; exact .nil, fun a m => (nomatch (eo ▸ m : a ∈ ([] : List Addr))), fun a m => (nomatch (eo ▸ m : a ∈ ([] : List Addr))), fun a m => m, fun a m => (nomatch m), .refl _, ?_⟩
    · cases i with
      | zero =>
        have h : Slot.scr ns = s := by simpa using h
        subst h
        refine ⟨a, by rw [h0]; rfl, ?_⟩
        have nb : ∀ {o : HO}, H a = some o → (∀ ps, o ≠ .tbl ps) → a ∉ bs ++ T := fun {o} e nt z => by
          rcases List.mem_append.mp z with z | z
          · have q := (hb a z).new
            rw [e] at q; cases q
          · obtain ⟨ps, q⟩ := hTt a z
            rw [e] at q
            exact nt ps (Option.some.inj q)
        rw [em]
        rcases hS with (q | ⟨o, q⟩) | q
        · exact .inl (.inl (mask_of (by rw [List.append_nil]; exact nb q (fun _ z => by cases z)) (sm _ _ q)))
        · exact .inl (.inr ⟨o, mask_of (by rw [List.append_nil]; exact nb q (fun _ z => by cases z)) (sm _ _ q)⟩)
        · exact .inr q
      | succ i =>
        have h : (List.replicate N Slot.un)[i]? = some s := by simpa using h
        rw [List.getElem?_replicate] at h
        split at h
        · cases h; exact True.intro
        · cases h
    · rw [eo]
      refine ⟨fun a m => ?_, hBs, fun a m => by simp at m⟩
      have m : a ∈ (bs ++ T) ++ [] := m
      rw [List.append_nil] at m
      rcases List.mem_append.mp m with m | m
      · obtain ⟨_, dr, n', ns', g1, _⟩ := hb a m
        rw [g1]
        exact nc_lst
      · obtain ⟨ps, q⟩ := hTt1 a m
        rw [q]
        exact nc_tbl
  · rintro i x σ' H' H'' hi en ⟨e1, e2⟩
    subst e1
    rw [List.getElem?_map] at e2
    cases hq : bs[i]? with
    | none => rw [hq] at e2; cases e2
    | some b =>
      rw [hq] at e2
      cases e2
      have mb : b ∈ bs := List.mem_of_getElem? hq
      have e3 := en.put (i := j) (s := .bag b) (v := .ref b) rfl ⟨rfl, List.mem_append_left _ mb, by
        have h1 : T.count b = 0 := List.count_eq_zero.mpr (nT b mb)
        have h2 := List.nodup_iff_count.mp nd b
        show (bs ++ T).count b ≤ 1
        rw [List.count_append]; omega⟩
      refine wss_mono (step b _ _ _ e3 (takesF _)) ⟨fun σ5 H5 ⟨δ5, e5, q5⟩ => ?_, fun v H5 ⟨k, g, d, t, q⟩ => ?_, fun σ5 H5 ⟨_, _, z⟩ => z.elim, fun σ5 H5 ⟨δ5, e5, q5⟩ => ?_⟩
      · exact hF e5 q5.1 q5.2
      · refine ⟨fun a o nm e => k a o (fun z => ?_) (sm a o e), ⟨fun a m => ?_, fun a m => ?_, fun a m => nomatch m⟩, d, t.mono (mask_sub fun a (m : a ∈ T ++ ([] : List Addr)) => ?_), q⟩
        · rcases List.mem_append.mp z with z | z
          · have q := (hb a z).new
            exact nomatch (show some o = none from (show H a = some o from e).symm.trans q)
          · exact nm z
        · exact g.there a (by rw [List.append_nil] at *; exact List.mem_append_right _ m)
        · have q := g.bags a (List.mem_append_right _ m)
          have ec : (bs ++ T).count a = T.count a := by
            rw [List.count_append, List.count_eq_zero.mpr (fun z => nT a z m), Nat.zero_add]
          rw [← ec]
          exact q.kp rfl (mask_sub fun a m => by rw [List.append_nil] at *; exact List.mem_append_right _ m)
        · rw [List.append_nil] at *
          exact List.mem_append_right _ m
      · exact hF e5 q5.1 q5.2
  · intro σ' H' e
    exact done _ σ' H' (hback e) (by rw [ha]; exact takesF _)
end Tl

set_option linter.all false
set_option maxRecDepth 100000
set_option maxHeartbeats 4000000
namespace Tl
open PySem PySem.Spec PyProof.Rows L2
structure OkBag (P : Program) (w : World) (K : PySem.W.Frag) (mg : Str → Option Value) (base : Heap) (n : Nat) : Prop where
  ex : ∃ (f : Addr) (fd : FuncData), FnOk P w K mg base (L2N.CX P w) n f fd ["script", "k"] (spBag K) ∧ mg "_law_bag" = some (.ref f) ∧ PySem.W.keepIn K (.ref f) = true ∧ Binds K fd ["script", "k"] []
section
variable {P : Program} {w : World} {K : PySem.W.Frag} {mg : Str → Option Value} {base : Heap}
abbrev F00 (H : Hp) : Fm := { mu := [], h0 := H, B := [], Z := [] }
theorem glo00 {H : Hp} : Glo [] [] H := ⟨fun a m => (nomatch m), fun a m => (nomatch m), fun a m => (nomatch m)⟩
theorem kp_same {H H' : Hp} (h : Kp [] H H') : Same H H' := fun a o e => h a o (fun z => nomatch z) e
/-- def _law_bag(script, k): return [_law_draws(..), 0] -/
theorem bag_fn {st : Stmt} {es : List Expr} {p1 p2 : Pos} {n : Nat} (F : Df K mg "_law_bag" st ["script", "k"]) (Sc : FnScope ["script", "k"] ["script", "k"] (defScope st)) (hb : defBody st = [.Return (some (.List es p1)) p2])
    (body : ∀ (f : Addr) (cdv : Value) (A : Around) (outer : List Env) (s : Shared) (H : Hp) (E : XK) (ns : List Int) (i : Int), Room n (A.deeper (envOfC "_law_bag" (defScope st) s.heap.objs.size f cdv)) → 0 ≤ i →
      Pa (cxOf (L2N.CX P w) P w K mg base ["script", "k"] "_law_bag" (defScope st) f cdv A outer s H E) nope [.scr ns, .d (.int i)] es fun ss => ∃ ds, ss = [.d (.list ds), .d (.int 0)] ∧ AllInt ds ∧ ds ≠ [] ∧ ds.length ≤ 1000) : OkBag P w K mg base (n + 1) := by
  obtain ⟨f, fd, F, h1, h2⟩ := F.ex
  refine ⟨f, fd, okN F Sc (fun vs H Q E h => ?_) (fun cdv A outer s H vs Q E hr h => ⟨_, pss_self, ?_⟩), h1, F.kp, h2⟩
  · obtain ⟨a, ns, i, rfl, _⟩ := h
    rfl
  · obtain ⟨a, ns, i, rfl, hS, hi, q⟩ := h
    rw [hb]
    have ha : SArgs K [] ([] ++ []) H [.scr ns, .d (.int i)] [.ref a, .int i] := .cons (show Slot.ow (.scr ns) = none ∧ SOk K [] ([] ++ []) H (.scr ns) (some (.ref a)) from ⟨rfl, a, rfl, by
      rcases hS with (q | ⟨o, q⟩) | q
      · exact .inl (.inl (mask_of (fun m => nomatch m) q))
      · exact .inl (.inr ⟨o, mask_of (fun m => nomatch m) q⟩)
      · exact .inr q⟩) (.cons (show Slot.ow (.d (.int i)) = none ∧ SOk K [] ([] ++ []) H (.d (.int i)) (some (.int i)) from ⟨rfl, .int i, rfl, .int i⟩) .nil)
    have e := en_start (N := ["script", "k"]) glo00 ha (by simp) (fun a m => nomatch m)
    refine wss_of (L2.pss_one (L2.ps_ret (pe_lst pa_self))) (wa_mono (body f cdv A outer s H E ns i hr hi (F00 H) _ H e ((L2N.takes_of rfl rfl rfl rfl).imp fun _ _ _ _ z => z.2.2.2.elim)) fun vs H1 ⟨e1, k1, ss, t1, ds, es, hA, hne, hl⟩ => ?_)
    subst es
    have t2 : Tds (mask (msk (F00 H) [.scr ns, .d (.int i)]) H1) vs [.list ds, .int 0] := sargs_d (ds := [.list ds, .int 0]) t1
    cases t2 with
    | cons t r =>
      cases r with
      | cons t' r =>
        cases r
        cases t'
        obtain ⟨ms, rfl⟩ := hA
        obtain ⟨dr, rfl, hd⟩ := ints_td t
        have hd := mask_le _ _ hd
        refine ⟨by show 2 ≤ sizeLine; decide, fun p hp => q p _ ((kp_same k1).trans (same_upd hp)) ⟨(kp_same k1).free hp, dr, 0, ms, upd_same, by rw [upd_ne (ne_of_none hd hp)]; exact hd, fun z => hne (by rw [z]; rfl), by rw [List.length_map] at hl; exact hl⟩⟩
/-- def _law_bags(script, limit): return [_law_bag(script, k) for k in range(..)] -/
theorem bags_fn {st : Stmt} {e : Expr} {scope : Scope} {q1 q2 q3 q4 q5 q6 q7 q8 q9 : Pos} {n m : Nat} (F : Df K mg "_law_bags" st ["script", "limit"]) (Sc : FnScope ["script", "limit", "k"] ["script", "limit"] (defScope st)) (G : OkBag P w K mg base m) (hmn : m ≤ n) (m_range : mg "range" = none)
    (hb : defBody st = [.Return (some (.ListComp (.Call (.Name "_law_bag" q1) [.Name "script" q2, .Name "k" q3] [] q4) [⟨.Name "k" q5, .Call (.Name "range" q6) [e] [] q7, [], 0⟩] scope q8)) q9])
    (hB : blkC ["script", "limit", "k"] (defScope st) scope [("k", 2)] = true) (hr0 : (defScope st).names.lookup ("range" : Str) = some .globalImplicit)
    (hL : scope.names.lookup ("k" : Str) = some .local) (hV : scope.names.lookup ("script" : Str) = some .free)
    (hGl : ∀ X : Cx, X.env.scope = defScope st → ∀ C cl, (compEnvC scope cl C X.env).kindOf "_law_bag" = some .globalImplicit) (hVs : ∀ X : Cx, X.env.scope = defScope st → ∀ C cl, Vis (compEnvC scope cl C X.env).scope "script" ∧ Vis (compEnvC scope cl C X.env).scope "k" ∧ L2.Loc (compEnvC scope cl C X.env).scope "k" ∧ (compEnvC scope cl C X.env).scope.names.lookup ("k" : Str) = some .local)
    (he0 : ∀ X : Cx, starEach [e] X.env = [(false, eval e X.env)]) (he1 : ∀ X : Cx, starEach [Expr.Name "script" q2, Expr.Name "k" q3] X.env = (false, eval (.Name "script" q2) X.env) :: starEach [Expr.Name "k" q3] X.env)
    (body : ∀ (f : Addr) (cdv : Value) (A : Around) (outer : List Env) (s : Shared) (H : Hp) (E : XK) (ns : List Int) (i : Int), Room n (A.deeper (envOfC "_law_bags" (defScope st) s.heap.objs.size f cdv)) → 0 ≤ i → i ≤ 1000 →
      Pe (cxOf (L2N.CX P w) P w K mg base ["script", "limit", "k"] "_law_bags" (defScope st) f cdv A outer s H E) nope [.scr ns, .d (.int i), .un] e fun d => ∃ n, d = .int n ∧ 0 ≤ n ∧ n ≤ 1000) : OkBags P w K mg base (n + 1) := by
  obtain ⟨g, gd, G, g1, g2, g3⟩ := G.ex
  obtain ⟨f, fd, F, h1, h2⟩ := F.ex
  refine ⟨f, fd, okN F Sc (fun vs H Q E h => ?_) (fun cdv A outer s H vs Q E hr h => ⟨_, pss_self, ?_⟩), h1, F.kp, h2⟩
  · obtain ⟨a, ns, i, rfl, _⟩ := h
    rfl
  · obtain ⟨a, ns, i, rfl, hS, hi0, hi1, q⟩ := h
    rw [hb]
    have ha : SArgs K [] ([] ++ []) H [.scr ns, .d (.int i)] [.ref a, .int i] := .cons (show Slot.ow (.scr ns) = none ∧ SOk K [] ([] ++ []) H (.scr ns) (some (.ref a)) from ⟨rfl, a, rfl, by
      rcases hS with (q | ⟨o, q⟩) | q
      · exact .inl (.inl (mask_of (fun m => nomatch m) q))
      · exact .inl (.inr ⟨o, mask_of (fun m => nomatch m) q⟩)
      · exact .inr q⟩) (.cons (show Slot.ow (.d (.int i)) = none ∧ SOk K [] ([] ++ []) H (.d (.int i)) (some (.int i)) from ⟨rfl, .int i, rfl, .int i⟩) .nil)
    have en := en_start (N := ["script", "limit", "k"]) glo00 ha (by simp) (fun a m => nomatch m)
    generalize hX : cxOf (L2N.CX P w) P w K mg base ["script", "limit", "k"] "_law_bags" (defScope st) f cdv A outer s H E = X at *
    have hXs : X.env.scope = defScope st := by rw [← hX]; rfl
    have hXN : X.N = (["script", "limit", "k"] : List Str) := by rw [← hX]; rfl
    have tk : L2N.Takes X (Wx (F00 H) nope) := by
      rw [← hX]
      exact (L2N.takes_of rfl rfl rfl rfl).imp fun _ _ _ _ z => z.2.2.2.elim
    have bd : Pe X nope [.scr ns, .d (.int i), .un] e fun d => ∃ n, d = .int n ∧ 0 ≤ n ∧ n ≤ 1000 := by
      rw [← hX]
      exact body f cdv A outer s H E ns i hr hi0 hi1
    have hcalm : X.calm = true := by rw [← hX]; rfl
    have hNd : X.N.Nodup := by rw [hXN]; exact Sc.nd
    have ok : BlkOk X.N X.env.scope scope [("k", 2)] := by rw [hXN, hXs]; exact blkOk_by hB
    have hgr : Gl X "range" := by show X.env.kindOf "range" = _; unfold Env.kindOf; rw [hXs]; exact hr0
    have hmr : X.mg "range" = none := by rw [← hX]; exact m_range
    have hXK : X.K = K := by rw [← hX]; rfl
    have hrX : Room n X.A := by rw [← hX]; exact hr
    have GX : FnOk X.prog X.w X.K X.mg X.base (L2N.CX X.prog X.w) m g gd ["script", "k"] (spBag X.K) := by rw [← hX]; exact G
    have gm : X.mg "_law_bag" = some (.ref g) := by rw [← hX]; exact g1
    have gk : PySem.W.keepIn X.K (.ref g) = true := by rw [hXK]; exact g2
    have gb : Binds X.K gd ["script", "k"] [] := by rw [hXK]; exact g3
    have ep : ∀ (s' : Shared) (H' : Hp) (C : Addr) (cl : List (Str × Addr)) (fp : List Addr), PE (X.blk s' H' scope (compEnvC scope cl C X.env) fp) (.Call (.Name "_law_bag" q1) [.Name "script" q2, .Name "k" q3] [] q4) (tCall (spBag X.K) [] E0 (tCons (tVar 0) (tCons (tVar 2) tNil))) := fun s' H' C cl fp => by
      obtain ⟨v1, v2, v3, v4⟩ := hVs X hXs C cl
      refine L2.pe_call (X := X.blk s' H' scope (compEnvC scope cl C X.env) fp) GX (hrX.mono hmn) (hGl X hXs C cl) gm gk gb .nil passNo (L2.pa_cons (pe_var (X := X.blk s' H' scope (compEnvC scope cl C X.env) fp) (by show X.N[0]? = _; rw [hXN]; rfl) v1) (L2.pa_cons (pe_var (X := X.blk s' H' scope (compEnvC scope cl C X.env) fp) (by show X.N[2]? = _; rw [hXN]; rfl) v2) L2.pa_nil (by rfl)) (by rfl)) (by decide) (by rfl) (by rfl)
    have gp : ∀ (s' : Shared) (H' : Hp) (C : Addr) (cl : List (Str × Addr)) (fp : List Addr), PG (X.blk s' H' scope (compEnvC scope cl C X.env) fp) (.Name "k" q5) (gName 2) := fun s' H' C cl fp => by
      obtain ⟨v1, v2, v3, v4⟩ := hVs X hXs C cl
      exact pg_name (X := X.blk s' H' scope (compEnvC scope cl C X.env) fp) hNd (by show X.N[2]? = _; rw [hXN]; rfl) v3 (.inr v4)
    refine wss_of (L2.pss_one (L2.ps_ret (L2.pe_lc (own := [("k", 2)]) (g := gName 2) (tt := tYes) hcalm hNd (pi_range1 hgr hmr (L2.pa_cons pe_self L2.pa_nil (by rw [he0]; rfl)) (he0 X)) ok gp (fun _ _ _ _ _ => L2.pts_nil) ep))) ?_
    rw [← hXK] at en
    refine we_mono (bd (F00 H) _ H en tk) fun v H1 ⟨e1, k1, d, t, j, ed, hj0, hj1⟩ => ?_
    subst ed
    cases t
    refine ⟨j, rfl, by omega, by omega, fun L hLn => ?_⟩
    have sm1 : Same H H1 := kp_same k1
    refine lc_range (lo := 0) (n := j.toNat) (fun t H' => Kp [] H1 H' ∧ ∃ bs : List Addr, H' L = some (.lst (bs.map V.ref)) ∧ bs.length = t ∧ L ∉ bs ∧ bs.Nodup ∧ ∀ b ∈ bs, NewBag H1 H' b) ⟨.of_same (same_upd hLn), [], upd_same, rfl, (fun m => nomatch m), .nil, fun _ m => nomatch m⟩ ?_ ?_
    · rintro t H' ht ⟨kp, bs, eL, hl, nL, nd, hb⟩
      refine ⟨rfl, ?_⟩
      show tCall (spBag X.K) [] E0 (tCons (tVar 0) (tCons (tVar 2) tNil)) _ _ _
      refine ⟨.ref a, rfl, .int (0 + t), rfl, a, ns, 0 + (t : Int), rfl, ?_, by omega, fun p H'' sm nb => ?_⟩
      · rw [hXK]
        have sm2 : Same H H' := sm1.trans (kp_same kp)
        exact sm2.seq hS
      · have np : p ∉ bs := fun z => by
          obtain ⟨_, dr, n', ms, b1, _⟩ := hb p z
          have := nb.new
          rw [b1] at this; cases this
        have pL : p ≠ L := fun z => by
          have := nb.new
          rw [z, eL] at this; cases this
        have eL' : H'' L = some (.lst (bs.map V.ref)) := sm _ _ eL
        have keep : ∀ b, b ≠ L → NewBag H1 H'' b → NewBag H1 (upd H'' L (.lst (bs.map V.ref ++ [.ref p]))) b := fun b hbL ⟨n1, dr, n', ms, b1, b2, b3, b4⟩ => by
          refine ⟨n1, dr, n', ms, by rw [upd_ne hbL]; exact b1, ?_, b3, b4⟩
          rw [upd_ne (fun z => ?_)]
          · exact b2
          · subst z
            rw [eL'] at b2
            have b2 := Option.some.inj b2
            injection b2 with b2
            cases ms with
            | nil => exact b3 rfl
            | cons c r =>
              cases bs with
              | nil => cases b2
              | cons c' r' => injection b2 with b2 _; cases b2
        refine ⟨bs.map V.ref, eL', by rw [List.length_map, sizeLine_eq]; omega, fun a' o _ e => ?_, bs ++ [p], ?_, by rw [List.length_append, hl]; rfl, ?_, ?_, ?_⟩
        · rw [upd_ne (fun z => by rw [z] at e; rw [hLn] at e; cases e)]
          exact sm _ _ (kp a' o (fun m => nomatch m) e)
        · rw [upd_same, List.map_append]; rfl
        · intro z
          rcases List.mem_append.mp z with z | z
          · exact nL z
          · exact pL (List.mem_singleton.mp z).symm
        · refine List.nodup_append.mpr ⟨nd, List.nodup_cons.mpr ⟨List.not_mem_nil, .nil⟩, fun x hx y hy z => ?_⟩
          rw [List.mem_singleton.mp hy] at z
          exact np (z ▸ hx)
        · intro b hbm
          rcases List.mem_append.mp hbm with z | z
          · exact keep b (fun z' => nL (z' ▸ z)) ((hb b z).same sm)
          · rw [List.mem_singleton.mp z]
            obtain ⟨n1, rest⟩ := nb
            exact keep p pL ⟨(kp_same kp).free n1, rest⟩
    · rintro H' ⟨kp, bs, eL, hl, nL, nd, hb⟩
      refine q L bs H' (sm1.trans (kp_same kp)) (sm1.free hLn) eL nL nd fun b m => ?_
      obtain ⟨n1, rest⟩ := hb b m
      exact ⟨sm1.free n1, rest⟩
end
end Tl

set_option linter.all false
set_option maxRecDepth 100000
set_option maxHeartbeats 4000000
namespace Tl
open PySem PySem.Spec PyProof.Rows L2
section
variable {X : Cx} {ex : Value → Prop} {δ : List Slot} {e a b c : Expr} {es rest : List Expr} {pos pos2 p p2 : Pos} {k : D → Prop} {x : Str} {i : Nat}
/-- a list times an int -/
theorem d2_rep {x y : D} (h : ∃ xs n, x = .list xs ∧ y = .int n ∧ -(2 ^ 63) ≤ n ∧ n < 2 ^ 63 ∧ xs.length * n.toNat ≤ 16777216 ∧ k (.list (List.replicate n.toNat xs).flatten)) : D2 rRep x y k := by
  obtain ⟨xs, n, e1, e2, h1, h2, h3, q⟩ := h
  subst e1 e2
  intro M H v u hM t t' Q hq
  cases t with
  | @lst a ws _ e z t =>
    cases t'
    refine ⟨a, n, ws, rfl, rfl, mask_le _ _ e, h1, h2, by rw [t.length, sizeLine_eq]; exact h3, fun p hp => ?_⟩
    have tt : ∀ m : Nat, Tds (mask M H) (List.replicate m ws).flatten (List.replicate m xs).flatten := by
      intro m
      induction m with
      | zero => exact .nil
      | succ m ih =>
        rw [List.replicate_succ, List.replicate_succ, List.flatten_cons, List.flatten_cons]
        exact Tds.app t ih
    have tn := tt n.toNat
    refine hq _ _ _ (same_upd hp) (.lst (mask_new hM hp) ?_ (tn.mono (same_mask (same_upd hp)))) q
    have e3 : ∀ m : Nat, (List.replicate m xs).flatten.length = m * xs.length := fun m => by simp
    rw [tn.length, e3, Nat.mul_comm, sizeLine_eq]
    exact h3
theorem pe_rep (h : Pe X ex δ a fun x => Pe X ex δ b fun y => ∃ xs n, x = .list xs ∧ y = .int n ∧ -(2 ^ 63) ≤ n ∧ n < 2 ^ 63 ∧ xs.length * n.toNat ≤ 16777216 ∧ k (.list (List.replicate n.toNat xs).flatten)) : Pe X ex δ (.BinOp a .Mult b pos) k := pe_bo op_rep (h.mono fun _ h => h.mono fun _ h => d2_rep h)
theorem rep_one (d : D) : ∀ n : Nat, (List.replicate n [d]).flatten = List.replicate n d
  | 0 => rfl
  | n + 1 => by rw [List.replicate_succ, List.flatten_cons, rep_one d n]; rfl
theorem pe_rep1 (h : Pe X ex δ a fun x => Pe X ex δ b fun y => ∃ d n, x = .list [d] ∧ y = .int n ∧ -16777216 ≤ n ∧ n ≤ 16777216 ∧ k (.list (List.replicate n.toNat d))) : Pe X ex δ (.BinOp a .Mult b pos) k :=
  pe_rep (h.mono fun _ h => h.mono fun _ ⟨d, n, e1, e2, h1, h2, q⟩ => ⟨[d], n, e1, e2, by omega, by omega, by show 1 * n.toNat ≤ _; omega, by rw [rep_one]; exact q⟩)
/-- sorted(ints) -/
theorem pe_srt (hm : X.mg "sorted" = none) (h : Pe X ex δ e fun d => ∃ ns : List Int, d = .list (ns.map .int) ∧ ∀ ms : List Int, ms.Perm ns → ms.Pairwise (· ≤ ·) → k (.list (ms.map .int))) (hg : Gl X "sorted" := by rfl)
    (he : starEach [e] X.env = (false, eval e X.env) :: starEach [] X.env := by rfl) (hpl : (backTo pos (starEach [] X.env)).any (·.1) = false := by rfl) : Pe X ex δ (.Call (.Name "sorted" p) [e] [] pos) k :=
  pe_bi cr_sortedI hm (by decide +kernel) (pa_cons (h.mono fun d ⟨ns, e1, q⟩ => pa_nil ⟨[d], rfl, fun M H vs hM t Q hq => by
    subst e1
    cases t with
    | cons t r =>
      cases r
      have zl : (ns.length) ≤ sizeLine := by
        cases t with
        | lst e z t => have := t.length; rw [List.length_map] at this; omega
      obtain ⟨a, rfl, ha⟩ := ints_td t
      exact ⟨a, ns, rfl, .of (mask_le _ _ ha), fun ms p hp1 hp2 hp => hq _ _ (.list (ms.map .int)) (same_upd hp) (.lst (mask_new hM hp) (by rw [List.length_map, hp1.length_eq]; exact zl) (Tds.of_ints ms)) (q ms hp1 hp2)⟩⟩) he) hg (by decide) (by decide) he hpl
theorem tds_rg {H : Hp} (lo hi : Int) : Tds H (rgV lo hi) (rngD lo (hi - lo).toNat) := by
  unfold rgV rngD
  generalize (List.range (hi - lo).toNat) = l
  induction l with
  | nil => exact .nil
  | cons x r ih => exact .cons (.int _) ih
theorem rngD_len (lo : Int) (n : Nat) : (rngD lo n).length = n := rngD_length lo n
/-- list(range(b)), list(range(a, b)) -/
theorem pe_lstR1 (hc : X.calm = true) (hm : X.mg "list" = none) (hmr : X.mg "range" = none) (h : Pe X ex δ a fun d => ∃ n, d = .int n ∧ RgOk 0 n ∧ k (.list (rngD 0 n.toNat))) (hg : Gl X "list" := by rfl) (hgr : Gl X "range" := by rfl) 
    (he : starEach [.Call (.Name "range" p2) [a] [] pos] X.env = (false, eval (.Call (.Name "range" p2) [a] [] pos) X.env) :: starEach [] X.env := by rfl) (he2 : starEach [a] X.env = (false, eval a X.env) :: starEach [] X.env := by rfl) : Pe X ex δ (.Call (.Name "list" p) [.Call (.Name "range" p2) [a] [] pos] [] pos2) k := fun F σ H en tk =>
  we_of (pe_listRg hc hg hm (prg_1 hgr hmr pe_self he2) he) (we_mono (h F σ H en tk) fun v H1 ⟨en1, k1, d, t, n, e1, ok, q⟩ => by
    subst e1
    cases t
    refine ⟨n, rfl, ok, fun l hl => ⟨en1.same (same_upd hl), k1.trans (.of_same (same_upd hl)), _, .lst (mask_new en1.tracked hl) ?_ (by have := tds_rg (H := mask (msk F δ) (upd H1 l (.lst (rgV 0 n)))) 0 n; rw [Int.sub_zero] at this; exact this), q⟩⟩
    rw [rgV_length, sizeLine_eq]
    exact ok.2.2.2.2)
theorem pe_lstR2 (hc : X.calm = true) (hm : X.mg "list" = none) (hmr : X.mg "range" = none) (h : Pe X ex δ a fun d => Pe X ex δ b fun d' => ∃ m n, d = .int m ∧ d' = .int n ∧ RgOk m n ∧ k (.list (rngD m (n - m).toNat))) (hg : Gl X "list" := by rfl) (hgr : Gl X "range" := by rfl) 
    (he : starEach [.Call (.Name "range" p2) [a, b] [] pos] X.env = (false, eval (.Call (.Name "range" p2) [a, b] [] pos) X.env) :: starEach [] X.env := by rfl) (he2 : starEach [a, b] X.env = (false, eval a X.env) :: starEach [b] X.env := by rfl) (he3 : starEach [b] X.env = (false, eval b X.env) :: starEach [] X.env := by rfl) (hpl : (backTo pos (starEach [b] X.env)).any (·.1) = false := by rfl) : Pe X ex δ (.Call (.Name "list" p) [.Call (.Name "range" p2) [a, b] [] pos] [] pos2) k := fun F σ H en tk =>
  we_of (pe_listRg hc hg hm (prg_2 hgr hmr pe_self pe_self he2 he3 hpl) he) (we_mono (h F σ H en tk) fun v H1 ⟨en1, k1, d, t, q⟩ => we_mono (q F σ H1 en1 tk) fun u H2 ⟨en2, k2, d', t', m, n, e1, e2, ok, q9⟩ => by
    subst e1 e2
    cases t
    cases t'
    refine ⟨m, n, rfl, rfl, ok, fun l hl => ⟨en2.same (same_upd hl), (k1.trans k2).trans (.of_same (same_upd hl)), _, .lst (mask_new en2.tracked hl) ?_ (tds_rg m n), q9⟩⟩
    rw [rgV_length, sizeLine_eq]
    exact ok.2.2.2.2)
theorem pe_tupR1 (hc : X.calm = true) (hm : X.mg "tuple" = none) (hmr : X.mg "range" = none) (h : Pe X ex δ a fun d => ∃ n, d = .int n ∧ RgOk 0 n ∧ k (.tuple (rngD 0 n.toNat))) (hg : Gl X "tuple" := by rfl) (hgr : Gl X "range" := by rfl) 
    (he : starEach [.Call (.Name "range" p2) [a] [] pos] X.env = (false, eval (.Call (.Name "range" p2) [a] [] pos) X.env) :: starEach [] X.env := by rfl) (he2 : starEach [a] X.env = (false, eval a X.env) :: starEach [] X.env := by rfl) : Pe X ex δ (.Call (.Name "tuple" p) [.Call (.Name "range" p2) [a] [] pos] [] pos2) k := fun F σ H en tk =>
  we_of (pe_tupRg hc hg hm (prg_1 hgr hmr pe_self he2) he) (we_mono (h F σ H en tk) fun v H1 ⟨en1, k1, d, t, n, e1, ok, q⟩ => by
    subst e1
    cases t
    refine ⟨n, rfl, ok, fun l hl => ⟨en1.same (same_upd hl), k1.trans (.of_same (same_upd hl)), _, .tup (mask_new en1.tracked hl) ?_ (by have := tds_rg (H := mask (msk F δ) (upd H1 l (.tup (rgV 0 n)))) 0 n; rw [Int.sub_zero] at this; exact this), q⟩⟩
    rw [rgV_length, sizeLine_eq]
    exact ok.2.2.2.2)
/-- a < b < c as a test -/
theorem pt_ch {k : Bool → Prop} {op op' : CmpOp} {g g' : Int → Int → Bool} (ho : OpR X (compareOp op) (rI0 fun i j => .bl (g i j))) (ho' : OpR X (compareOp op') (rI0 fun i j => .bl (g' i j)))
    (h : Pe X ex δ a fun x => Pe X ex δ b fun y => ∃ i j, x = .int i ∧ y = .int j ∧ if g i j = true then Pe X ex δ c fun z => ∃ l, z = .int l ∧ k (g' j l) else k false)
    (hm : lastMarks [op, op'] [b, c] = false := by with_unfolding_all rfl) : Pt X ex δ (.Compare a [op, op'] [b, c] pos) k := fun F σ H en tk =>
  wt_of (pt_chain ho ho' pe_self pe_self pe_self hm) (we_mono (h F σ H en tk) fun v H1 ⟨en1, k1, d1, t1, q1⟩ => we_mono (q1 F σ H1 en1 tk) fun u H2 ⟨en2, k2, d2, t2, i, j, e1, e2, q⟩ => by
    subst e1; subst e2
    cases t1; cases t2
    refine ⟨i, j, rfl, rfl, g i j, rfl, ?_⟩
    cases hc : g i j with
    | true =>
      rw [hc] at q
      refine we_mono (q F σ H2 en2 tk) fun w H3 ⟨en3, k3, d3, t3, l, e3, q3⟩ => ?_
      subst e3
      cases t3
      exact ⟨j, l, rfl, rfl, _, rfl, en3, (k1.trans k2).trans k3, q3⟩
    | false =>
      rw [hc] at q
      exact ⟨_, rfl, en2, k1.trans k2, q⟩)
/-- is of bools -/
theorem pe_is (h : Pe X ex δ a fun x => Pe X ex δ b fun y => ∃ c d : Bool, x = .bool c ∧ y = .bool d ∧ k (.bool (decide (c = d)))) : Pe X ex δ (.Compare a [.Is] [b] pos) k :=
  pe_cm op_isBl (nomark _) (h.mono fun _ h => h.mono fun _ ⟨c, d, e1, e2, q⟩ M H v u hM t t' Q hq => by
    subst e1 e2
    cases t
    cases t'
    exact ⟨c, d, rfl, rfl, hq _ _ _ (.refl H) (.bl _) q⟩)
end

theorem iteYes {A B : Prop} (h : A) : if true = true then A else B := by rw [if_pos rfl]; exact h
theorem iteNo {A B : Prop} (h : B) : if false = true then A else B := by rw [if_neg (by decide)]; exact h
section
variable {X : Cx} {A : AE} {δ : List Slot} {a : Expr} {pos : Pos}
/-- x, y = e, [] -/
theorem ps_parO {i j : Nat} {x y : Str} {px py pt p3 : Pos} {kt k2 : Nat} {pt2 : Pos} (hc : X.calm = true) (hN : X.N.Nodup) (hij : i ≠ j)
    (hw : swappedStores [.Tuple [.Name x px, .Name y py] kt pt] (.Tuple [a, .List [] p3] k2 pt2) X.env = pure (some [x, y]))
    (h : Pe X A.ex δ a fun d => ∀ q, A.nx ((δ.set i (.d d)).set j (.own q []))) (hi : X.N[i]? = some x := by rfl) (hj : X.N[j]? = some y := by rfl)
    (hx : X.env.scope.names.lookup x = some .local := by rfl) (hy : X.env.scope.names.lookup y = some .local := by rfl)
    (hs : swapsWithSole [.Tuple [.Name x px, .Name y py] kt pt] (.Tuple [a, .List [] p3] k2 pt2) pos.line X.env = pure false := by rfl)
    (he : starEach [a, .List [] p3] X.env = (false, eval a X.env) :: starEach [.List [] p3] X.env := by rfl) (he2 : starEach [.List [] p3] X.env = (false, eval (.List [] p3) X.env) :: starEach [] X.env := by rfl) :
    Ps X δ (.Assign [.Tuple [.Name x px, .Name y py] kt pt] (.Tuple [a, .List [] p3] k2 pt2) pos) A := fun F σ H en tk =>
  ws_of (L2.ps_par hc hN hi hj hij hx hy (L2.pa_cons pe_self (L2.pa_cons (pe_lst L2.pa_nil) L2.pa_nil he2) he) hw hs) (we_mono (h F σ H en tk) fun v H1 ⟨en1, k1, d, t, q⟩ =>
    ⟨Nat.zero_le _, fun p hp => ⟨v, .ref p, rfl, _, (en1.putD i t).putOwn j hp (Nat.zero_le _) .nil, q p⟩⟩)
end
theorem cutD_to {ds : List D} {i : Int} (h0 : 0 ≤ i) : cutD ds none (some i) = ds.take i.toNat := by
  unfold cutD
  rw [HT.sIx_none, List.drop_zero, Nat.sub_zero, show i = ((i.toNat : Nat) : Int) by omega, HT.sIx_nat, Int.toNat_natCast]
  by_cases h : i.toNat ≤ ds.length
  · rw [Nat.min_eq_left h]
  · rw [Nat.min_eq_right (by omega), List.take_of_length_le (Nat.le_refl _), List.take_of_length_le (by omega)]
theorem cutD_from {ds : List D} {i : Int} (h0 : 0 ≤ i) : cutD ds (some i) none = ds.drop i.toNat := by
  unfold cutD
  rw [HT.sIx_none, show i = ((i.toNat : Nat) : Int) by omega, HT.sIx_nat, Int.toNat_natCast]
  by_cases h : i.toNat ≤ ds.length
  · rw [Nat.min_eq_left h, List.take_of_length_le (by rw [List.length_drop]; exact Nat.le_refl _)]
  · rw [Nat.min_eq_right (by omega), List.drop_eq_nil_of_le (by omega : ds.length ≤ ds.length), List.drop_eq_nil_of_le (by omega : ds.length ≤ i.toNat), List.take_nil]
/-! ### the law -/
def spLaw (K : PySem.W.Frag) : Sp := fun vs H Q _ => ∃ (a : Addr) (ns : List Int), vs = [.ref a] ∧ SqL K H a (ns.map V.int) ∧ ns.length ≤ 63 ∧ ∀ H', Q (.bl true) H'
abbrev lawE : AE := { nx := fun _ => False, rt := fun d => d = .bool true, ex := nope }
theorem law_fn {P : Program} {w : World} {K : PySem.W.Frag} {mg : Str → Option Value} {base : Heap} {st : Stmt} {N : List Str} {n : Nat} {fa : Addr} {fd : FuncData} (F : Fun K "law" "law" st fa fd) (Sc : FnScope N ["script"] (defScope st))
    (body : ∀ (cdv : Value) (A : Around) (outer : List Env) (s : Shared) (H : Hp) (E : XK) (a : Addr) (ns : List Int), Room n (A.deeper (envOfC "law" (defScope st) s.heap.objs.size fa cdv)) → SqL K H a (ns.map V.int) → ns.length ≤ 63 →
      WSs (cxOf (L2N.CX P w) P w K mg base N "law" (defScope st) fa cdv A outer s H E) (defBody st) (cz K (F00 H) lawE) (start N [.ref a]) H) :
    FnOk P w K mg base (L2N.CX P w) (n + 1) fa fd ["script"] (spLaw K) := by
  refine okN F Sc (fun vs H Q E h => ?_) (fun cdv A outer s H vs Q E hr h => ⟨_, pss_self, ?_⟩)
  · obtain ⟨a, ns, rfl, _⟩ := h
    rfl
  · obtain ⟨a, ns, rfl, hS, hl, q⟩ := h
    refine wss_mono (body cdv A outer s H E a ns hr hS hl) ⟨?_, ?_, ?_, ?_⟩
    · rintro σ' H' ⟨_, _, h⟩; exact h.elim
    · rintro v H' ⟨k1, g1, d, t, h⟩
      have h : d = .bool true := h
      subst h
      cases t
      exact q H'
    · rintro σ' H' ⟨_, _, h⟩; exact h.elim
    · rintro σ' H' ⟨_, _, h⟩; exact h.elim
end Tl

set_option linter.all false
set_option maxRecDepth 100000
set_option maxHeartbeats 4000000
/-! TlK: the end of an iteration while an exception is handled. -/
namespace Tl
open PySem PySem.Spec PyProof.Rows HotX
section
variable {prog : Program} {w : World} {A : Around} {E : Value → Shared → Prop} {s : Shared}
/-- StopIteration, made and raised and caught by the one who asked -/
theorem stop_made {α : Type} {x1 : Addr} {Q : α → Shared → Prop} (hot : HotAt A x1 s.heap)
    (hE : ∀ (a : Addr) (h' : Heap), (∀ b o, s.heap.get? b = some o → h'.get? b = some o) → (∃ o, h'.get? a = some o ∧ o.cls = .type "StopIteration") → E (.ref a) { s with heap := h' }) :
    wpAny (model prog w) A (newExc (.type "StopIteration") [] >>= fun x => (raiseNew x : Sem α)) Q E s := by
  obtain ⟨hh, o1, vs1, g1, d1, c1⟩ := hot
  refine wpAny_bind ?_
  unfold newExc newTuple
  refine wpAny_bind (wpAny_newObj_type ?_ (by size_fits))
  refine wpAny_bind (m := firstArgMember _ _) (wpAny_of_eq (a := Value.none) (by first | rfl | (unfold firstArgMember; rfl)) ?_)
  refine wpAny_newObj_type ?_ (by size_fits)
  have k2 := Heap.get?_push_of_some { cls := .type "StopIteration", data := .fields #[.ref s.heap.objs.size, .none, .none, .none, .bool false, .none] } (Heap.get?_push_of_some { cls := .type "tuple", data := .seq ([] : List Value).toArray } g1)
  refine raiseNew_hot ⟨hh, o1, vs1, Heap.get?_push_of_some _ (Heap.get?_push_of_some _ g1), d1, c1⟩ (Nat.ne_of_lt (Heap.lt_size (Heap.get?_push_of_some _ g1))) (Heap.get?_push_size _ rfl) rfl (by first | (simp; done) | (simp; omega)) (hE _ _ (fun b o e => ?_) ⟨_, Heap.get?_update_self _ (Heap.get?_push_size _ rfl) rfl, rfl⟩)
  rw [Heap.get?_update_other _ _ (Nat.ne_of_gt (Heap.lt_size (Heap.get?_push_of_some _ e)))]
  exact Heap.get?_push_of_some _ (Heap.get?_push_of_some _ e)
theorem hot_upd {x1 it : Addr} {f : Obj → Obj} {h : Heap} (hot : HotAt A x1 h) (n : x1 ≠ it) : HotAt A x1 (h.update it f) := by
  obtain ⟨hh, o1, vs1, g1, d1, c1⟩ := hot
  exact ⟨hh, o1, vs1, by rw [Heap.get?_update_other _ _ (Ne.symm n)]; exact g1, d1, c1⟩
theorem list_end_hot {it l x1 : Addr} {i : Nat} {items : Array Value} {Q : Option Value → Shared → Prop} (hot : HotAt A x1 s.heap) (n1 : x1 ≠ it) (hit : s.heap.IsListIter it l i) (hl : s.heap.IsList l items) (hx : items[i]? = none)
    (hQ : ∀ h', Heap.ExtBut it s.heap h' → Q none { s with heap := h' }) : wpAny (model prog w) A (pyNext (.ref it)) Q E s := by
  have hit' := hit; have hl' := hl
  obtain ⟨oi, gi, ci, di⟩ := hit'; obtain ⟨ol, gl, _, nl, dl⟩ := hl'
  have hot' : HotAt A.in1 x1 s.heap := hot
  unfold pyNext
  refine wpAny_bind (wpAny_attempt (wpAny_callSpecial?_slot (name := Str.ofString "__next__") hit.typeIs slot_listiter_next (wpAny_call_entry slot_listiter_next hit.typeIs entry_listiter_next ?_ (args_listiter_next _))))
  show wpAny _ _ (field (.ref it) 0 >>= _) _ _ s
  refine wpAny_bind (wpAny_field gi di (x := .ref l) rfl ?_); show wpAny _ _ (if (Value.ref l == Value.none) = true then _ else _) _ _ s
  rw [if_neg (show ¬ ((Value.ref l == Value.none) = true) from Bool.false_ne_true)]; show wpAny _ _ (field (.ref it) 1 >>= _) _ _ s
  refine wpAny_bind (wpAny_field gi di (x := .int i 0) rfl ?_); show wpAny _ _ (seqItems? (.ref l) >>= _) _ _ s
  refine wpAny_bind (wpAny_seqItems gl dl ?_); simp only [Int.toNat_natCast, hx]
  refine wpAny_bind (wpAny_rule (wpAny_bind (wpAny_setField gi di (by simp) (stop_made (hot_upd hot' n1) fun a h' kp ⟨o, ho, hc⟩ => ?_))))
  refine wpAny_bind (wpAny_isInstance (T := "StopIteration") (b := true) ⟨o, ho, hc⟩ isSubtype_stop (wpAny_pure (hQ _ fun b o nb e => kp b o ?_)))
  rw [Heap.get?_update_other _ _ nb.symm]; exact e
theorem tup_end_hot {it t x1 : Addr} {i : Nat} {items : Array Value} {Q : Option Value → Shared → Prop} (hot : HotAt A x1 s.heap) (n1 : x1 ≠ it) (hit : IsTupIter s.heap it t i) (ht : IsTup s.heap t items) (hx : items[i]? = none)
    (hQ : ∀ h', Heap.ExtBut it s.heap h' → Q none { s with heap := h' }) : wpAny (model prog w) A (pyNext (.ref it)) Q E s := by
  have hit' := hit; have ht' := ht
  obtain ⟨oi, gi, ci, di⟩ := hit'; obtain ⟨ol, gl, _, nl, dl⟩ := ht'
  have hot' : HotAt A.in1 x1 s.heap := hot
  unfold pyNext
  refine wpAny_bind (wpAny_attempt (wpAny_callSpecial?_slot (name := Str.ofString "__next__") hit.typeIs slot_tupleiter_next (wpAny_call_entry slot_tupleiter_next hit.typeIs entry_tupleiter_next ?_ (args_tupleiter_next _))))
  show wpAny _ _ (field (.ref it) 0 >>= _) _ _ s
  refine wpAny_bind (wpAny_field gi di (x := .ref t) rfl ?_); show wpAny _ _ (if (Value.ref t == Value.none) = true then _ else _) _ _ s
  rw [if_neg (show ¬ ((Value.ref t == Value.none) = true) from Bool.false_ne_true)]; show wpAny _ _ (field (.ref it) 1 >>= _) _ _ s
  refine wpAny_bind (wpAny_field gi di (x := .int i 0) rfl ?_); show wpAny _ _ (seqItems? (.ref t) >>= _) _ _ s
  refine wpAny_bind (wpAny_seqItems gl dl ?_); simp only [Int.toNat_natCast, hx]
  refine wpAny_bind (wpAny_rule (wpAny_bind (wpAny_setField gi di (by simp) (stop_made (hot_upd hot' n1) fun a h' kp ⟨o, ho, hc⟩ => ?_))))
  refine wpAny_bind (wpAny_isInstance (T := "StopIteration") (b := true) ⟨o, ho, hc⟩ isSubtype_stop (wpAny_pure (hQ _ fun b o nb e => kp b o ?_)))
  rw [Heap.get?_update_other _ _ nb.symm]; exact e
/-- a, b = a tuple, while an exception is handled -/
theorem assign_tup_hot {x1 : Addr} {env : Env} {elts : List Expr} {k} {pos : Pos} {t : Addr} {items : Array Value} {Q : Unit → Shared → Prop} (hot : HotAt A x1 s.heap) (ht : IsTup s.heap t items)
    (hn : (assignEach elts env).length = items.size) (hst : (assignEach elts env).findIdx? (·.1) = none)
    (h : ∀ h', Heap.ExtBut s.heap.objs.size s.heap h' → wpAny (model prog w) A (assignInOrder ((assignEach elts env).map (·.2)) items.toList) Q E { s with heap := h' }) : wpAny (model prog w) A (assign (.Tuple elts k pos) env (.ref t)) Q E s := by
  have lt : t < s.heap.objs.size := by obtain ⟨o, ho, _⟩ := ht; exact Heap.lt_size ho
  have lx : x1 < s.heap.objs.size := by obtain ⟨_, o, _, ho, _⟩ := hot; exact Heap.lt_size ho
  have hlt : t ≠ s.heap.objs.size := Nat.ne_of_lt lt
  rw [assign_Tuple]
  refine wpAny_bind (wpAny_standAt ?_)
  unfold unpack
  rw [hn, hst]
  refine wpAny_bind (wpAny_holding ?_)
  unfold unpackItems notIterableAtAll
  refine wpAny_bind (wpAny_bind (wpAny_specialOf ht.typeIs slot_tuple_iter.lookup (wpAny_pure ?_)))
  simp only [Bool.false_eq_true, if_false]
  refine wpAny_bind (wpAny_holding (iter_tuple ht (wpAny_bind (wpAny_holding (draw_tuple hlt items.size 0 _ _ ⟨_, Heap.get?_push_size _ rfl, rfl, rfl⟩ (ht.push _) (by omega) fun h₁ hit₁ hs₁ => ?_)))))
  rw [show List.take items.size (List.drop 0 items.toList) = items.toList by rw [List.drop_zero]; exact List.take_of_length_le (by simp), if_neg (by simp)]
  have ht₁ : IsTup h₁ t items := (ht.push _).extBut hs₁.extBut hlt
  have hot₁ : HotAt A x1 h₁ := by
    obtain ⟨hh, o1, vs1, g1, d1, c1⟩ := hot
    exact ⟨hh, o1, vs1, hs₁.extBut _ _ (Nat.ne_of_lt lx) (Heap.get?_push_of_some _ g1), d1, c1⟩
  refine wpAny_bind (wpAny_holding (tup_end_hot hot₁ (Nat.ne_of_lt lx) hit₁ ht₁ (by simp) fun h₂ he₂ => ?_))
  simp only [Option.isSome_none, Bool.false_eq_true, if_false]
  exact wpAny_pure (h h₂ fun b o hb e => he₂ b o hb (hs₁.extBut b o hb (Heap.get?_push_of_some _ e)))
end
end Tl

set_option linter.all false
set_option maxRecDepth 100000
set_option maxHeartbeats 4000000
/-! TlL: a list comprehension over a list, while an exception is handled. -/
namespace Tl
open PySem PySem.Spec PyProof.Rows L2
/-- in every state of this context the exception that is handled stands with no context -/
def HotB (X : Cx) : Prop := ∀ (pins : List (Addr × Obj)) (σ : L2.St) (H : Hp) (s : Shared), Inv X pins σ H s → ∃ x1, HotX.HotAt X.A x1 s.heap
theorem pg_tupH {X : Cx} {es : List Expr} {k : Nat} {t : TGs} {n : Nat} {pos : Pos} (hot : HotB X) (h : PGs X es t)
    (hn : (assignEach es X.env).length = n := by rfl) (hst : (assignEach es X.env).findIdx? (·.1) = none := by rfl) : PG X (.Tuple es k pos) (gTup X.K n t) := ⟨fun pins s σ H v u Q I r ⟨a, xs, e1, hq, hl, hw⟩ => by
  subst e1
  cases r
  obtain ⟨x1, hx⟩ := hot _ _ _ _ I
  obtain ⟨its, rv, ht, hz⟩ := I.tuple hq
  refine assign_tup_hot hx ht (by simp [hn, ← hl, rv.length]) hst fun h' hx' => ?_
  have J : Inv X pins σ H { s with heap := h' } := I.kept (t' := s.toks) fun b o e => hx' b o (Nat.ne_of_lt (Heap.lt_size e)) e
  exact h.run pins _ σ H xs _ Q J (by simpa using rv) hw⟩
theorem hot_blk {X : Cx} {s3 : Shared} {H3 : Hp} {scope : Scope} {ce : Env} {fp : List Addr} {p : Addr × Obj} (h1 : L2H.Hot1 X.A p) (g : s3.heap.get? p.1 = some p.2) (n : H3 p.1 = none) (nf : p.1 ∉ frs X.stack) (nx : p.1 ∉ fp) : HotB (X.blk s3 H3 scope ce fp) := fun pins σ H s I => by
  obtain ⟨hh, vs, d1, c1⟩ := h1
  exact ⟨p.1, hh, p.2, vs, I.base.keep p.1 p.2 g n nf nx, d1, c1⟩
section
variable {X : Cx} {pins : List (Addr × Obj)} {σ : L2.St} {H : Hp} {s : Shared}
theorem lc_hot {elt tg iter : Expr} {ifs : List Expr} {scope : Scope} {own : List (Str × Nat)} {pos : Pos} {ti : TE} {g : TG} {tt : TT} {te : TE} {p : Addr × Obj}
    (hN : X.N.Nodup) (hp : p ∈ X.pn) (h1 : L2H.Hot1 X.A p) (hi : PE X iter ti) (ok : BlkOk X.N X.env.scope scope own)
    (hg : ∀ (s : Shared) (H : Hp) (C : Addr) (cl : List (Str × Addr)) (fp : List Addr), HotB (X.blk s H scope (compEnvC scope cl C X.env) fp) → PG (X.blk s H scope (compEnvC scope cl C X.env) fp) tg g)
    (ht : ∀ (s : Shared) (H : Hp) (C : Addr) (cl : List (Str × Addr)) (fp : List Addr), PTs (X.blk s H scope (compEnvC scope cl C X.env) fp) ifs tt)
    (he : ∀ (s : Shared) (H : Hp) (C : Addr) (cl : List (Str × Addr)) (fp : List Addr), PE (X.blk s H scope (compEnvC scope cl C X.env) fp) elt te)
    (hs : ∀ x, foldedSetIterable iter X.env x = pure x := by intro _; rfl) :
    PE X (.ListComp elt [⟨tg, iter, ifs, 0⟩] scope pos) (fun σ H Q => ti σ H fun x H1 => ∃ l, x = .ref l ∧ (∃ xs, SqL X.K H1 l xs) ∧ tLc (fun _ _ R => R (Itl X.K l) H1) g tt te (own.map (·.2)) σ H Q) := ⟨fun pins s σ H Q I hq => by
  have hfree : ∀ y ∈ scope.names, y.2 = .free → ∃ c, X.env.cells.lookup y.1 = some c := fun y hy e => (ok.free y hy e).elim (fun k => I.ok.has _ (.inl k)) fun k => I.ok.has _ (.inr k)
  rw [eval_ListComp]
  refine wpAny_comprehension_free (use := none) rfl hs (closure_ok hfree) ok.kind (fun y hy e => by rw [ok.uniq y hy, e]) (thn (hi.run pins s σ H _ I hq) fun xv s1 ⟨x, H1, I1, r1, l, e1, ⟨xs, hS⟩, q⟩ => ?_)
  subst e1
  cases r1
  obtain ⟨its, rv, pl, hz⟩ := I1.list hS
  refine wpAny_pyIter_list pl.isList ?_
  -- the iterator
  generalize hit : s1.heap.objs.size = it
  have I2 : Inv X pins σ H1 { s1 with heap := s1.heap.push { cls := .type "list_iterator", data := .fields #[.ref l, .int 0 0] } } := I1.kept (t' := s1.toks) fun b o e => Heap.get?_push_of_some _ e
  have f2 : FpOk X pins H1 it := by rw [← hit]; exact I1.fpOk (Nat.le_refl _) (I1.hok.fresh (Nat.le_refl _))
  have st2 : (s1.heap.push { cls := .type "list_iterator", data := .fields #[.ref l, .int 0 0] }).IsListIter it l 0 := by rw [← hit]; exact ⟨_, Heap.get?_push_size _ rfl, rfl, rfl⟩
  generalize hs2 : ({ s1 with heap := s1.heap.push { cls := .type "list_iterator", data := .fields #[.ref l, .int 0 0] } } : Shared) = s2 at I2 ⊢
  have st2 : s2.heap.IsListIter it l 0 := by rw [← hs2]; exact st2
  -- the new list
  refine wpAny_newObj_type (newEnv_comp ?_) (by show 0 ≤ sizeLine; decide)
  generalize hD : s2.heap.objs.size = D
  have hDn : H1 D = none := I2.hok.fresh (Nat.le_of_eq hD)
  obtain ⟨W, ⟨m0, w0⟩, turn⟩ := q D hDn
  have I3 : Inv X pins σ (upd H1 D (.lst [])) { s2 with heap := s2.heap.push { cls := .type "list", data := .seq ([] : List Value).toArray } } := I2.laid (t' := s2.toks) (fun b o e => Heap.get?_push_of_some _ e) (Nat.le_of_eq hD) ⟨Nat.zero_le _, [], 0, .nil, by rw [← hD]; exact Heap.get?_push_size _ rfl⟩
  have lit : it < s2.heap.objs.size := by obtain ⟨o, e, _⟩ := st2; exact Heap.lt_size e
  generalize hs3 : ({ s2 with heap := s2.heap.push { cls := .type "list", data := .seq ([] : List Value).toArray } } : Shared) = s3 at I3 ⊢
  have k23 : ∀ b o, s2.heap.get? b = some o → s3.heap.get? b = some o := fun b o e => by rw [← hs3]; exact Heap.get?_push_of_some _ e
  have st3 : s3.heap.IsListIter it l 0 := st2.at fun o e => k23 it o e
  generalize hH3 : upd H1 D (.lst []) = H3 at I3 w0
  have n3 : H3 it = none := by rw [← hH3, upd_ne (by rw [← hD]; exact Nat.ne_of_lt lit)]; exact f2.1
  have f3 : ∀ b ∈ [it], FpOk X pins H3 b ∧ b < s3.heap.objs.size := fun b hb => by
    rw [List.mem_singleton.mp hb]
    refine ⟨⟨n3, f2.2⟩, ?_⟩
    obtain ⟨o, e, _⟩ := st3
    exact Heap.lt_size e
  have I4 := block_start I3 ok hN f3
  have P3 := I3.pin p (List.mem_append_left _ hp)
  have nst : p.1 ∉ frs X.stack := fun z => (List.mem_cons.mp (I3.stkSub _ z)).elim P3.2.2.1 P3.2.2.2.1
  have nit : p.1 ∉ [it] := fun z => (f3 it (List.mem_singleton.mpr rfl)).1.2.2.2.2.2 p (List.mem_append_left _ hp) (List.mem_singleton.mp z)
  have hot := hot_blk (X := X) (scope := scope) (ce := compEnvC scope (cellsFrom (s3.heap.objs.size + 1) scope.names (cloFrom X.env.cells scope.names [])) s3.heap.objs.size X.env) (fp := [it]) h1 P3.1 P3.2.1 nst nit
  have pg := hg s3 H3 s3.heap.objs.size (cellsFrom (s3.heap.objs.size + 1) scope.names (cloFrom X.env.cells scope.names [])) [it] hot
  have pt := ht s3 H3 s3.heap.objs.size (cellsFrom (s3.heap.objs.size + 1) scope.names (cloFrom X.env.cells scope.names [])) [it]
  have pe := he s3 H3 s3.heap.objs.size (cellsFrom (s3.heap.objs.size + 1) scope.names (cloFrom X.env.cells scope.names [])) [it]
  show codeAny _ _ (.compStart (.ListComp elt [⟨tg, iter, ifs, 0⟩] scope pos) 0 (.ref it) (.ref D) (compEnvC scope (cellsFrom (s3.heap.objs.size + 1) scope.names (cloFrom X.env.cells scope.names [])) s3.heap.objs.size X.env)) (compPost (model X.prog X.w) X.A X.xe none (EP X pins σ Q) (.ref D) s3.heap.objs.size) { s3 with heap := pushCells (s3.heap.push { cls := .type "dict", data := .dict #[] }) scope.names }
  generalize hce : compEnvC scope (cellsFrom (s3.heap.objs.size + 1) scope.names (cloFrom X.env.cells scope.names [])) s3.heap.objs.size X.env = ce at I4 pg pt pe hot ⊢
  have cL : ce.locals = s3.heap.objs.size := by subst hce; rfl
  generalize hs4 : ({ s3 with heap := pushCells (s3.heap.push { cls := .type "dict", data := .dict #[] }) scope.names } : Shared) = s4 at I4 ⊢
  have st4 : s4.heap.IsListIter it l 0 := st3.at fun o e => by rw [← hs4]; exact pushCells_keeps _ _ _ _ (Heap.get?_push_of_some _ e)
  have stat : ∀ {σ' : L2.St} {H' : Hp} {s' : Shared}, Inv (X.blk s3 H3 scope ce [it]) [] σ' H' s' → H' it = none → FpOk (X.blk s3 H3 scope ce [it]) [] H' it := fun {σ' H' s'} I' hn =>
    have m : it ∈ (X.blk s3 H3 scope ce [it]).ex := List.mem_singleton.mpr rfl
    ⟨hn, (I'.ok.exf it m).1, I'.ok.exfs it m, .inl m, fun x c e => (I'.ok.exf it m).2 x c e, fun q hq => absurd (show q ∈ ([] : List (Addr × Obj)) ++ [] from hq) (by simp)⟩
  refine codeAny_compStart_list ?_ (wpAny_pyIter_listiter st4 ?_) <;>
  · refine compLoop_any (fun m s' => ∃ i H', Inv (X.blk s3 H3 scope ce [it]) [] (L2.wipe σ (own.map (·.2))) H' s' ∧ s'.heap.IsListIter it l i ∧ H' it = none ∧ W i m H') ?_ m0 ⟨0, H3, I4, st4, n3, w0⟩
    rintro m s5 ⟨i, H5, I5, st5, n5, w5⟩
    obtain ⟨x1, hx⟩ := hot _ _ _ _ I5
    obtain ⟨g0, g1, g2, g3, g4, g5⟩ := stat I5 n5
    rcases turn i m H5 w5 with ⟨⟨xs5, hS5, hle⟩, fin⟩ | ⟨⟨xs5, y, hS5, hxi⟩, Nx, hNx, step⟩
    · obtain ⟨its5, rv5, pl5, hz5⟩ := I5.list hS5
      have lv := rv5.length
      have nx1 : x1 ≠ it := by
        obtain ⟨hh, _⟩ := hx
        obtain ⟨hh1, _⟩ := h1
        have e : x1 = p.1 := by
          have := hh.symm.trans hh1
          injection this with this
          injection this
        rw [e]; exact fun z => nit (by rw [z]; exact List.mem_singleton.mpr rfl)
      refine list_end_hot hx nx1 st5 pl5.isList (by simp; omega) fun h' eb => ?_
      have I6 : Inv (X.blk s3 H3 scope ce [it]) [] (L2.wipe σ (own.map (·.2))) H5 { s5 with heap := h' } := I5.turned (t' := s5.toks) (fun b o hb e => eb b o hb e) g0 g1 g3 g4 g5
      have I7 : Inv X pins σ H5 { s5 with heap := h' } := I3.call' (ch := [it]) I6.os I6.base I6.hok I6.bare fun b hb => ⟨(f3 b hb).1.2.2.2.1, (f3 b hb).1.2.1, (f3 b hb).1.2.2.2.2.1, (f3 b hb).1.2.2.2.2.2⟩
      have nC : H5 s3.heap.objs.size = none := by have z : H5 ce.locals = none := I6.free; rw [cL] at z; exact z
      obtain ⟨mm, hn, _⟩ := I6.loc
      have hn : h'.Ns ce.locals mm := hn
      rw [cL] at hn
      obtain ⟨k0, k1, k2, k3, k4, k5⟩ := I3.fpOk (Nat.le_refl _) nC
      exact ⟨mm, hn, fun h'' sb => ⟨.ref D, H5, I7.turned (t' := s5.toks) (fun b o hb e => (sb.2 b hb).trans e) k0 k1 k3 k4 k5, rfl, fin⟩⟩
    · obtain ⟨its5, rv5, pl5, hz5⟩ := I5.list hS5
      have lv := rv5.length
      obtain ⟨u, hu, ru⟩ := rv5.get hxi
      refine wpAny_pyNext_list_item st5 pl5.isList (x := u) (by simpa using hu) fun h' st' sb => ?_
      have I6 : Inv (X.blk s3 H3 scope ce [it]) [] (L2.wipe σ (own.map (·.2))) H5 { s5 with heap := h' } := I5.turned (t' := s5.toks) (fun b o hb e => (sb.2 b hb).trans e) g0 g1 g3 g4 g5
      obtain ⟨oi, ei, ci, di⟩ := id st'
      refine go_of (s := { s5 with heap := h' }) ei ci di (by decide) ?_
      have I6' : Inv (X.blk s3 H3 scope ce [it]) ([] ++ [(it, oi)]) (L2.wipe σ (own.map (·.2))) H5 { s5 with heap := h' } := I6.pins_of fun q hq => by
        have e : q = (it, oi) := by simpa using hq
        rw [e]
        exact ⟨ei, g0, g1, g2, fun v z => by rw [di] at z; cases z⟩
      refine thnF (pg.run _ _ _ H5 y u _ I6' ru (step y H5 ⟨rfl, fun ys hy => by rw [I5.list_inj hy hS5]; exact hxi⟩)) fun _ s8 ⟨σ8, H8, I8, hw8, q8⟩ => ?_
      refine thnF (pt.run _ s8 σ8 H8 _ I8 q8) fun b s9 ⟨H9, I9, q9⟩ => ?_
      have back : ∀ {s' : Shared} {H' : Hp}, Inv (X.blk s3 H3 scope ce [it]) ([] ++ [(it, oi)]) σ8 H' s' → Nx H' → ∃ m', m' < m ∧ ∃ i H', Inv (X.blk s3 H3 scope ce [it]) [] (L2.wipe σ (own.map (·.2))) H' s' ∧ s'.heap.IsListIter it l i ∧ H' it = none ∧ W i m' H' := fun {s' H'} I' nx => by
        have z := I'.pin (it, oi) (List.mem_append_right _ (List.mem_append_right _ (List.mem_singleton.mpr rfl)))
        have hl : (L2.wipe σ (own.map (·.2))).length = σ8.length := by rw [← hw8, wipe_length]
        obtain ⟨m', hm', w'⟩ := hNx H' nx
        refine ⟨m', hm', i + 1, H', (I'.unpinned (pins := [])).weak hl (fun j v e => ?_), ⟨oi, z.1, ci, di⟩, z.2.1, w'⟩
        rw [← hw8] at e
        exact (wipe_some e).1
      cases b with
      | false =>
        simp only [Bool.false_eq_true, if_false] at q9 ⊢
        exact back I9 q9
      | true =>
        simp only [if_true] at q9 ⊢
        refine thnF (pe.run _ s9 σ8 H9 _ I9 q9) fun zz s10 ⟨yv, H10, I10, r10, acc, hD10, hz10, nx⟩ => ?_
        exact app_ok (X := X.blk s3 H3 scope ce [it]) I10 hD10 hz10 r10 fun s11 I11 => back I11 nx⟩
variable {ex : Value → Prop} {δ : List Slot} {k : D → Prop}
/-- .. over a list -/
theorem pe_lcH {elt tg iter : Expr} {ifs : List Expr} {scope : Scope} {own : List (Str × Nat)} {pos : Pos} {p : Addr × Obj} (pt : Pat) (hN : X.N.Nodup) (hp : p ∈ X.pn) (h1 : L2H.Hot1 X.A p) (ok : BlkOk X.N X.env.scope scope own) (hpt : ∀ i ∈ pt.is, i ∈ own.map (·.2))
    (hg : ∀ (s : Shared) (H : Hp) (C : Addr) (cl : List (Str × Addr)) (fp : List Addr), HotB (X.blk s H scope (compEnvC scope cl C X.env) fp) → PG (X.blk s H scope (compEnvC scope cl C X.env) fp) tg (pt.g X.K))
    (h : Pe X ex δ iter fun d => ∃ ds, d = .list ds ∧ LcB X δ pt elt ifs scope (own.map (·.2)) k ds)
    (hs : ∀ x, foldedSetIterable iter X.env x = pure x := by intro _; rfl) : Pe X ex δ (.ListComp elt [⟨tg, iter, ifs, 0⟩] scope pos) k := fun F σ H en tk =>
  we_of (lc_hot (te := (fun σ H Q => ∀ (s : Shared) (H' : Hp) (C : Addr) (cl : List (Str × Addr)) (fp : List Addr), WE (X.blk s H' scope (compEnvC scope cl C X.env) fp) elt σ H Q))
    (tt := (fun σ H Q => ∀ (s : Shared) (H' : Hp) (C : Addr) (cl : List (Str × Addr)) (fp : List Addr), WTs (X.blk s H' scope (compEnvC scope cl C X.env) fp) ifs σ H Q))
    hN hp h1 pe_self ok hg (fun s H C cl fp => ⟨fun pins s' σ' H' Q I h => h s H C cl fp pins s' I⟩) (fun s H C cl fp => ⟨fun pins s' σ' H' Q I h => h s H C cl fp pins s' I⟩) hs) (we_mono (h F σ H en tk) fun v H1 ⟨en1, k1, d, t, ds, e1, b⟩ => by
      subst e1
      cases t with
      | @lst a ws _ e2 z2 t =>
        refine ⟨a, rfl, ⟨ws, .of (mask_le _ _ e2)⟩, lc_body pt hpt en1 k1 ?_ b fun v H' d e1 e2 e3 e4 => ⟨e1, e2, d, e3, e4⟩⟩
        rw [← mm_eq (ow := false)] at e2 t
        exact ylds_list e2 t)
end
end Tl

set_option linter.all false
set_option maxRecDepth 100000
set_option maxHeartbeats 4000000
/-! TlM: a lambda with parameters. -/
namespace Tl
open PySem PySem.Spec PyProof.Rows L2
/-- the lambda at f is called: it captures nothing -/
theorem lam_run {CX : CXT} {P : Program} {w : World} {K : PySem.W.Frag} {mg : Str → Option Value} {base : Heap} {k : Nat} {f c' : Addr} {q : Str} {params : Arguments} {body : Expr} {scope : Scope} {pm ctv : Value} {N ps : List Str}
    {A : Around} {outer : List Env} {s : Shared} {H : Hp} {us : List Value} {vs : List V} {Q : VK} {E : XK} (S : FnScope N ps scope) (hf : s.heap.get? f = some (PySem.W.kla_obj "<lambda>" q params body scope [] pm c' ctv)) (hc : H c' = some (LamX.CodeO c' q))
    (hr : Room (k + 1) A) (e0 : Env0 P w K mg base A outer s H) (hb : bindArgs (PySem.W.kla_fn "<lambda>" q params body scope [] pm (.ref c') ctv) ⟨us, []⟩ = pure (ps.zip us)) (r : Vals vs us) (hl : vs.length = ps.length)
    (hbody : Room k (A.deeper (envOfC q scope s.heap.objs.size f (.ref c'))) → ∃ t, PE (cxOf CX P w K mg base N q scope f (.ref c') A outer s H E) body t ∧ t (L2.start N vs) H Q) :
    codeAny (model P w) A (.call (.ref f) ⟨us, []⟩) (CR CX outer P w H s Q E) s := by
  obtain ⟨⟨oc, fs, t, hoc, hdc, hvc⟩, _, _⟩ := e0.hok c' _ hc
  have lim : s.heap.NoLimit := e0.mod.nolimit.keeps fun b o e => (e0.bs b o e).1
  have hkind : ∀ y ∈ ps.zip us, scope.names.lookup y.1 = some .local ∨ (scope.names.lookup y.1 = some .cell ∧ ((cellsFrom (s.heap.objs.size + 1) scope.names []).lookup y.1).isSome = true) := fun ⟨n, v⟩ hy => by
    rcases S.par n (List.of_mem_zip hy).1 with z | z
    · exact .inl z
    · exact .inr ⟨z, PySem.W.cellsFrom_some _ _ _ (.inl z)⟩
  refine PySem.W.kla_callFunE hr.depth hf rfl S.co S.gen rfl ⟨c', oc, fs, t, rfl, hoc, hdc, hvc⟩ ?_
  rw [hb]
  refine wpAny_pure (wpAny_newFunctionEnv_cells S.kind hkind fun env he s1 x => ?_)
  subst he
  refine ⟨lim.keeps x.toInCall.keep, PySem.W.kla_codeExpr ?_⟩
  obtain ⟨t, ht, hq⟩ := hbody (hr.deeper _)
  have I : Inv (cxOf CX P w K mg base N q scope f (.ref c') A outer s H E) [] (L2.start N vs) H s1 := inv_start S hr.hd e0 hl r x
  refine wpAny_mono (ht.run [] s1 (L2.start N vs) H _ I hq) (fun v s' ⟨v', H', J, rv, z⟩ => ?_) fun e s' hs => hs
  exact ⟨v', H', J.os, J.bare, J.base, J.hok, rv, z⟩
/-- its body keeps the contract S -/
theorem lam_keeps {P : Program} {w : World} {K : PySem.W.Frag} {mg : Str → Option Value} {base : Heap} {k : Nat} {f c' : Addr} {q : Str} {body : Expr} {scope : Scope} {N ps : List Str} {S : Ct} {A : Around} {outer : List Env} {s : Shared} {H : Hp} {vs : List V} {Q : VK} {E : XK}
    (hN : ps.length ≤ N.length) (len : ∀ ss k ex, S ss k ex → ss.length = ps.length)
    (hb : ∀ (A : Around) (outer : List Env) (s : Shared) (H : Hp) (E : XK) (ss : List Slot) (kk : D → Prop) (ex : Value → Prop), Room k (A.deeper (envOfC q scope s.heap.objs.size f (.ref c'))) → S ss kk ex →
      Pe (cxOf (L2N.CX P w) P w K mg base N q scope f (.ref c') A outer s H E) ex (ss ++ List.replicate (N.length - ps.length) .un) body kk)
    (h : spS K S vs H Q E) (hr : Room k (A.deeper (envOfC q scope s.heap.objs.size f (.ref c')))) : ∃ t, PE (cxOf (L2N.CX P w) P w K mg base N q scope f (.ref c') A outer s H E) body t ∧ t (L2.start N vs) H Q := by
  obtain ⟨B, Z, ss, kk, ex, g, hz, ha, hS, hq, he⟩ := h
  have hl := len ss kk ex hS
  have e := en_start (N := N) g ha (by rw [← sargs_len ha, hl]; exact hN) hz
  rw [hl] at e
  refine ⟨_, pe_self, we_mono (hb A outer s H E ss kk ex hr hS _ _ H e ((L2N.takes_of rfl rfl rfl rfl).imp ?_)) ?_⟩
  · rintro c d σ H' ⟨e1, k1, g1, h1⟩
    subst e1
    exact he c h1 H' k1 g1
  · rintro v H' ⟨en', k1, d, t, z⟩
    obtain ⟨k2, g2, d2, t2, z2⟩ := ret_of (A := { nx := fun _ => False, rt := kk }) e en' t z
    exact hq d2 z2 v H' k2 g2 t2
/-- call(..) in the def that got the lambda: Z is that def's context -/
theorem act_pe {CXg : CXT} {P : Program} {w : World} {K : PySem.W.Frag} {mg : Str → Option Value} {base : Heap} {Eg : XK} {Ng : List Str} {qg : Str} {sg : Scope} {g f c' : Addr} {cdg : Value} {i : Nat} {x q : Str} {pn : List (Addr × Obj)} {xe : Value → Shared → Prop} {W : WX}
    {p1 p2 : Pos} {e1 : Expr} {es : List Expr} {ta : TA} {A : Around} {outer : List Env} {s : Shared} {H : Hp} {sp : Sp} {ob : Obj} (hf : s.heap.get? f = some ob) (hfd : ∃ fd, ob.data = .func fd) (hfn : H f = none) (hfr : f ∉ frs outer) (hco : H c' = some (LamX.CodeO c' q))
    (tk : L2N.Takes ((cxOf CXg P w K mg base Ng qg sg g cdg A outer s H Eg).tr pn xe) W)
    (hcall : ∀ (s1 : Shared) (H1 : Hp) (us : List Value) (vs : List V) (Q : VK) (E : XK), s1.heap.get? f = some ob → H1 c' = some (LamX.CodeO c' q) → Env0 P w K mg base (A.deeper (envOfC qg sg s.heap.objs.size g cdg)) (envOfC qg sg s.heap.objs.size g cdg :: outer) s1 H1 → Vals vs us → sp vs H1 Q E →
      codeAny (model P w) (A.deeper (envOfC qg sg s.heap.objs.size g cdg)) (.call (.ref f) ⟨us, []⟩) (CR (L2N.CX P w) (envOfC qg sg s.heap.objs.size g cdg :: outer) P w H1 s1 Q E) s1)
    (ha : PA ((cxOf CXg P w K mg base Ng qg sg g cdg A outer s H Eg).tr pn xe) (e1 :: es) ta)
    (hN : Ng[i]? = some x) (hv : Vis sg x) (hst : starEach (e1 :: es) ((cxOf CXg P w K mg base Ng qg sg g cdg A outer s H Eg).tr pn xe).env = (false, eval e1 ((cxOf CXg P w K mg base Ng qg sg g cdg A outer s H Eg).tr pn xe).env) :: starEach es ((cxOf CXg P w K mg base Ng qg sg g cdg A outer s H Eg).tr pn xe).env := by rfl)
    (hpl : (backTo p2 (starEach es ((cxOf CXg P w K mg base Ng qg sg g cdg A outer s H Eg).tr pn xe).env)).any (·.1) = false := by rfl) (hd : (x == ("__debug__" : Str)) = false := by decide) (hcd : (x == ("__classdict__" : Str)) = false := by decide) :
    PE ((cxOf CXg P w K mg base Ng qg sg g cdg A outer s H Eg).tr pn xe) (.Call (.Name x p1) (e1 :: es) [] p2) (fun σZ HZ Q => σZ[i]? = some (some (.ref f)) ∧ ta σZ HZ fun vs H1 => H1 c' = some (LamX.CodeO c' q) ∧ sp vs H1 Q (fun cls d H' => W cls d σZ H')) := by
  refine ⟨fun pinsZ sZ σZ HZ Q IZ h => ?_⟩
  obtain ⟨hs, ht⟩ := h
  refine wpAny_Call_Name_kw (thn ((pe_var (pos := p1) (i := i) hN hv hd hcd).run pinsZ sZ σZ HZ (fun v H1 => v = .ref f ∧ H1 = HZ) IZ ⟨.ref f, hs, rfl, rfl⟩) fun u s1 ⟨v, H1, I1, r1, ev, eH⟩ => ?_)
  subst ev
  subst eH
  obtain rfl : u = Value.ref f := r1
  have of_ : ∀ {σ' : L2.St} {H' : Hp} {s' : Shared}, Inv ((cxOf CXg P w K mg base Ng qg sg g cdg A outer s H Eg).tr pn xe) pinsZ σ' H' s' → s'.heap.get? f = some ob := fun I => I.base.keep f _ hf hfn hfr (fun z => nomatch (show f ∈ ([] : List Addr) from z))
  obtain ⟨fd, hfd⟩ := hfd
  have fnAt : ∀ {σ' : L2.St} {H' : Hp} {s' : Shared}, Inv ((cxOf CXg P w K mg base Ng qg sg g cdg A outer s H Eg).tr pn xe) pinsZ σ' H' s' → PySem.W.FnAt f s'.heap := fun I => by
    have z := of_ I
    cases ob with
    | mk cls data dict slots => cases hfd; exact ⟨_, _, _, _, z⟩
  refine PySem.W.callWith_F (first := []) (fnAt I1) (thn (ha.run p2 pinsZ s1 σZ H1 _ I1 ht) fun us s2 ⟨vs, H2, I2, r, h1, q2⟩ => ⟨fnAt I2, ?_⟩) hst hpl
  refine wpAny_call (codeAny_mono (hcall s2 H2 us vs Q _ (of_ I2) h1 I2.env0 r q2) fun r s' hq => ?_)
  cases r with
  | error e => exact tk e s' (L2N.XE.of_call I2 (fun _ _ _ z => z) hq)
  | ok fl =>
    cases fl with
    | ret u => exact I2.after hq
    | next => exact False.elim hq
    | brk => exact False.elim hq
    | cont => exact False.elim hq
/-- what the lambda at f is to the def that got it -/
structure LamAt (P : Program) (w : World) (K : PySem.W.Frag) (mg : Str → Option Value) (base : Heap) (A : Around) (outer : List Env) (s : Shared) (H : Hp) (f c' : Addr) (q : Str) (S : Ct) : Prop where
  ex : ∃ ob : Obj, s.heap.get? f = some ob ∧ (∃ fd, ob.data = .func fd) ∧ H f = none ∧ f ∉ frs outer ∧ H c' = some (LamX.CodeO c' q) ∧
    ∀ (s1 : Shared) (H1 : Hp) (us : List Value) (vs : List V) (Q : VK) (E : XK), s1.heap.get? f = some ob → H1 c' = some (LamX.CodeO c' q) → ∀ en : Env, Env0 P w K mg base (A.deeper en) (en :: outer) s1 H1 → Vals vs us → spS K S vs H1 Q E →
      codeAny (model P w) (A.deeper en) (.call (.ref f) ⟨us, []⟩) (CR (L2N.CX P w) (en :: outer) P w H1 s1 Q E) s1
/-- try: call(..) / except x as n: suite -/
theorem ps_tryE {P : Program} {w : World} {K : PySem.W.Frag} {mg : Str → Option Value} {base : Heap} {Ng : List Str} {qg : Str} {sg : Scope} {g f c' : Addr} {cdg : Value} {i j : Nat} {x n y q : Str} {A0 : Around} {outer : List Env} {s : Shared} {H0 : Hp} {Eg : XK}
    {p1 p2 p3 np pos pos' : Pos} {e1 : Expr} {es : List Expr} {b0 : Stmt} {suite : List Stmt} {S : Ct} {TE : Addr} {A : AE} {δ : List Slot}
    (L : LamAt P w K mg base A0 outer s H0 f c' q S)
    (hNd : Ng.Nodup) (hn : Ng[j]? = some n) (hln : sg.names.lookup n = some .local) (hNx : Ng[i]? = some x) (hvx : Vis sg x) (hgy : sg.names.lookup y = some .globalImplicit) (hmy : mg y = some (.ref TE)) (hdy : (y == ("__debug__" : Str)) = false) (hδ : δ[i]? = some (.lam f c' q))
    (hc : A.ex = nope)
    (h : ∀ (pn : List (Addr × Obj)) (xe : Value → Shared → Prop), Pa ((cxOf (L2N.CX P w) P w K mg base Ng qg sg g cdg A0 outer s H0 Eg).tr pn xe) nope δ (e1 :: es) fun ss => ∃ (kk : D → Prop) (ex : Value → Prop), S ss kk ex ∧ (∀ d, kk d → A.nx δ) ∧
      ∀ c, ex c → PySem.W.exmOne K c (.ref TE) = some true ∧ ∀ (a : Addr) (oe : Obj) (pn : List (Addr × Obj)), L2N.Zn c none oe → (∃ vs, oe.data = .fields vs) →
        Pss ((cxOf (L2N.CX P w) P w K mg base Ng qg sg g cdg A0 outer s H0 Eg).suite a ((a, oe) :: pn)) (δ.set j (.raw (.ref a))) (b0 :: suite) { nx := fun δ' => A.nx (δ'.set j .un), rt := A.rt, bk := fun δ' => A.bk (δ'.set j .un), ct := fun δ' => A.ct (δ'.set j .un) })
    (hst : starEach (e1 :: es) (cxOf (L2N.CX P w) P w K mg base Ng qg sg g cdg A0 outer s H0 Eg).env = (false, eval e1 (cxOf (L2N.CX P w) P w K mg base Ng qg sg g cdg A0 outer s H0 Eg).env) :: starEach es (cxOf (L2N.CX P w) P w K mg base Ng qg sg g cdg A0 outer s H0 Eg).env := by rfl)
    (hpl : (backTo p2 (starEach es (cxOf (L2N.CX P w) P w K mg base Ng qg sg g cdg A0 outer s H0 Eg).env)).any (·.1) = false := by rfl) (hdx : (x == ("__debug__" : Str)) = false := by decide) (hcd : (x == ("__classdict__" : Str)) = false := by decide)
    (hsw : swapsWith (.Call (.Name x p1) (e1 :: es) [] p2) none p3.line (cxOf (L2N.CX P w) P w K mg base Ng qg sg g cdg A0 outer s H0 Eg).env = pure false := by rfl) :
    Ps (cxOf (L2N.CX P w) P w K mg base Ng qg sg g cdg A0 outer s H0 Eg) δ (.Try [.Expr (.Call (.Name x p1) (e1 :: es) [] p2) p3] [.ExceptHandler (some (.Name y np)) (some n) (b0 :: suite) pos'] [] [] pos) A := fun F σ H en _ => by
  obtain ⟨en1', hcm⟩ := en.lamAt hδ
  have hcc := mask_le _ _ hcm
  have hBc : ∀ a ∈ F.B, a ≠ c' := fun a m z => (of_mask hcm).1 (mem_msk.mpr (.inl (z ▸ m)))
  obtain ⟨ob, hf, hfd, hfn, hfr, hco, act⟩ := L.ex
  generalize hX : cxOf (L2N.CX P w) P w K mg base Ng qg sg g cdg A0 outer s H0 Eg = X at *
  have hXK : X.K = K := by rw [← hX]; rfl
  refine ws_of (L2N.ps_try_as (X := X) (i := j) (c := .ref TE) (Wout := fun _ _ _ _ => False)
    (tb := fun W D σ H => σ[i]? = some (some (.ref f)) ∧ ∀ (pn : List (Addr × Obj)) (xe : Value → Shared → Prop), WA (X.tr pn xe) (e1 :: es) σ H fun vs H1 => H1 c' = some (LamX.CodeO c' q) ∧ spS K S vs H1 (fun _ H' => D.nx σ H') (fun cls d H' => W cls d σ H'))
    (ts := fun a cls d D σ H => ∀ (oe : Obj) (pn : List (Addr × Obj)), L2N.Zn cls d oe → (∃ vs, oe.data = .fields vs) → WSs (X.suite a ((a, oe) :: pn)) (b0 :: suite) D σ H)
    (by rw [← hX]; rfl) (by rw [← hX]; rfl) (by rw [← hX]; exact hNd) (by rw [← hX]; exact hn) (by rw [← hX]; exact hln) (by rw [← hX]; exact ⟨hgy, hdy, .inl hmy⟩) takesNo (fun W pn xe tk pass => ?_) (fun a oe cls d pn hz hfl => ⟨fun pins s' σ' H' D I z => z oe pn hz hfl pins s' I⟩)) ?_
  · refine ⟨fun pins s' σ' H' D I z => ?_⟩
    obtain ⟨z1, z2⟩ := z
    subst hX
    exact (L2.pss_one (L2.ps_expr (act_pe hf hfd hfn hfr hco tk (fun s1 H1 us vs Q E h1 h2 h3 h4 h5 => act s1 H1 us vs Q E h1 h2 _ h3 h4 h5) pa_self hNx hvx hst hpl hdx hcd) hsw)).run pins s' σ' H' D I ⟨z1, z2 pn xe⟩
  · refine ⟨en1', fun pn xe => ?_⟩
    have en : En X.K F δ σ H := en
    refine wa_mono (h pn xe F σ H en (takesNo.imp fun _ _ _ _ z => z.2.2.2)) fun vs H1 ⟨en1, k1, ss, ha, kk, ex, hS, hk, he⟩ => ⟨k1 c' _ (fun m => hBc c' m rfl) hcc, ?_⟩
    have hZ : ∀ a ∈ owns δ ++ F.Z, a ∉ F.B := fun a m z => (List.mem_append.mp m).elim (fun m => en1.dj a m (List.mem_append_left _ z)) (fun m => en1.zm a m (en1.bm a z))
    refine ⟨F.B, owns δ ++ F.Z, ss, kk, ex, en1.glo, hZ, (by rw [← hXK]; exact ha), hS, fun d hd v H' kp g t => ⟨δ, en1.step kp g, hk d hd⟩, fun c hcx H' kp g => ?_⟩
    obtain ⟨h1, h2⟩ := he c hcx
    refine ⟨true, (by rw [hXK]; exact h1), fun _ a na => fun oe pn hz hfl => ?_, fun z => nomatch z⟩
    have e2 : En X.K F (δ.set j (.raw (.ref a))) (σ.set j (some (.ref a))) H' := (en1.step kp g).put rfl rfl
    refine wss_mono (h2 a oe pn hz hfl F _ H' e2 (takesNo.imp fun _ _ _ _ z => z.2.2.2)) ⟨?_, fun v H5 z => z, ?_, ?_⟩
    · rintro σ5 H5 ⟨δ5, e5, q5⟩
      exact ⟨_, e5.forget, q5⟩
    · rintro σ5 H5 ⟨δ5, e5, q5⟩
      exact ⟨_, e5.forget, q5⟩
    · rintro σ5 H5 ⟨δ5, e5, q5⟩
      exact ⟨_, e5.forget, q5⟩
end Tl

set_option linter.all false
set_option maxRecDepth 100000
set_option maxHeartbeats 4000000
/-! TlO: within an except suite. -/
namespace Tl
open PySem PySem.Spec PyProof.Rows L2
section
variable {X : Cx} {ex : Value → Prop} {δ : List Slot} {k : D → Prop}
theorem hot_suite {a : Addr} {oe : Obj} {pn : List (Addr × Obj)} {c : Value} (hz : L2N.Zn c none oe) (hf : ∃ vs, oe.data = .fields vs) : L2H.Hot1 (X.suite a ((a, oe) :: pn)).A (a, oe) := by
  obtain ⟨vs, hv⟩ := hf
  exact ⟨rfl, vs, hv, hz.2.2 vs hv⟩
/-- isinstance(e, C) of the error that the suite holds -/
theorem pe_isE {a C : Addr} {oe : Obj} {pn : List (Addr × Obj)} {e1 e2 : Expr} {p pos : Pos} (ce : ExcC X.K C) (hz : L2N.Zn (.ref C) none oe) (hf : ∃ vs, oe.data = .fields vs) (hm : X.mg "isinstance" = none)
    (h : Pr (X.suite a ((a, oe) :: pn)) ex δ e1 fun v => v = .ref a ∧ Pr (X.suite a ((a, oe) :: pn)) ex δ e2 fun c => ∃ (cv : Value) (b : Bool), (∀ u, RelV c u → u = cv) ∧ PySem.W.kitOne X.K (.ref C) cv = some b ∧ k (.bool b)) (hg : Gl X "isinstance" := by rfl)
    (hs : starEach [e1, e2] X.env = (false, eval e1 X.env) :: starEach [e2] X.env := by rfl) (hs2 : starEach [e2] X.env = (false, eval e2 X.env) :: starEach [] X.env := by rfl) (hpl : (backTo pos (starEach [e2] X.env)).any (·.1) = false := by rfl) :
    Pe (X.suite a ((a, oe) :: pn)) ex δ (.Call (.Name "isinstance" p) [e1, e2] [] pos) k := fun F σ H en tk =>
  we_of (pe_callB (X := X.suite a ((a, oe) :: pn)) (call_isE ce hz.zc hf) hg hm (by decide +kernel) (L2.pa_cons pe_self (L2.pa_cons pe_self L2.pa_nil hs2) hs) (by decide) (by decide) hs hpl)
    (we_mono (h F σ H en tk) fun v H1 ⟨en1, k1, ev, q⟩ => we_mono (q F σ H1 en1 tk) fun c H2 ⟨en2, k2, cv, b, h1, h2, h3⟩ => by
      subst ev
      exact ⟨c, cv, b, rfl, h1, h2, en2, k1.trans k2, _, .bl b, h3⟩)
end
section
variable {X : Cx} {A : AE} {δ : List Slot}
/-- x = a + b, lists: a list of one's own -/
theorem ps_catO (i : Nat) {x : Str} {a b : Expr} {p2 p3 pos : Pos} (hN : X.N.Nodup) (h : Pe X A.ex δ a fun d => Pe X A.ex δ b fun d' => ∃ xs ys, d = .list xs ∧ d' = .list ys ∧ xs.length + ys.length ≤ 16777216 ∧ ∀ q, A.nx (δ.set i (.own q (xs ++ ys)))) (hi : X.N[i]? = some x := by rfl)
    (hx : Loc X.env.scope x := by first | exact Or.inl rfl | exact Or.inr rfl) (hs : swapsWith (.BinOp a .Add b p3) (some (.Name x p2)) pos.line X.env = pure false := by rfl) (hf : X.fn x = true ∨ X.env.scope.names.lookup x = some .local := by first | exact .inl rfl | exact .inr rfl | assumption) :
    Ps X δ (.Assign [.Name x p2] (.BinOp a .Add b p3) pos) A := fun F σ H en tk =>
  ws_of (ps_set hN hi hx (L2.pe_op op_cat pe_self pe_self) hs hf) (we_mono (h F σ H en tk) fun v H1 ⟨en1, k1, d, t1, q⟩ => we_mono (q F σ H1 en1 tk) fun u H2 ⟨en2, k2, d', t2, xs, ys, e1, e2, hz, q9⟩ => by
    subst e1 e2
    have t1 := t1.mono (kp_msk k2)
    cases t1 with
    | @lst l1 us _ g1 z1 t1 =>
      cases t2 with
      | @lst l2 ws _ g2 z2 t2 =>
        have hz' : us.length + ws.length ≤ sizeLine := by rw [t1.length, t2.length, sizeLine_eq]; exact hz
        exact ⟨_, _, _, _, rfl, rfl, mask_le _ _ g1, mask_le _ _ g2, hz', fun p hp => ⟨_, en2.putOwn i hp (by rw [List.length_append]; exact hz') (Tds.app t1 t2), q9 p⟩⟩)
end
end Tl

set_option linter.all false
set_option maxRecDepth 100000
set_option maxHeartbeats 4000000
/-! TlP: a lambda is made and handed to a def. -/
namespace Tl
open PySem PySem.Spec PyProof.Rows L2
section
variable {X : Cx} {pins : List (Addr × Obj)} {σ : L2.St} {H : Hp} {s : Shared}
/-- a lambda is made: at its code object's table alone something changes -/
theorem lam_made {c P : Addr} {q : Str} {params : Arguments} {body : Expr} {scope : Scope} {pos : Pos} {E : Value → Shared → Prop} {Q : Value → Shared → Prop} (I : Inv X pins σ H s) (TB : LamX.TabB X.base X.mg c P) (hcode : X.env.code = .ref c)
    (hT : LamX.TabS H P q) (hq : q = X.env.qual ++ "<lambda>") (hdef : defaultsOf params X.env = ([], [])) (hfree : ∀ y ∈ scope.names, y.2 = .free → ∃ c, X.env.cells.lookup y.1 = some c)
    (h : ∀ (f c' : Addr) (pm ctv : Value) (H1 : Hp) (s' : Shared), Inv X pins σ H1 s' → (∀ b o, b ≠ P → H b = some o → H1 b = some o) → LamX.TabS H1 P q →
      s'.heap.get? f = some (PySem.W.kla_obj "<lambda>" q params body scope (cloFrom X.env.cells scope.names []) pm c' ctv) → H1 f = none → (f ∉ frs X.stack ∧ f ≠ X.env.locals ∧ f ∉ X.fs) → H1 c' = some (LamX.CodeO c' q) → s.heap.objs.size ≤ f → Q (.ref f) s') :
    wpAny (model X.prog X.w) X.A (eval (.Lambda params body scope pos) X.env) Q E s := by
  subst hq
  obtain ⟨ps, hP, ht, ha⟩ := hT
  have bP := TB.bm.keeps I.bk
  have gP := I.hok P _ hP
  have out : ∀ f, s.heap.objs.size ≤ f → f ∉ frs X.stack ∧ f ≠ X.env.locals ∧ f ∉ X.fs := fun f hf =>
    have n1 : f ≠ X.env.locals := fun e => Nat.lt_irrefl _ (Nat.lt_of_lt_of_le (e ▸ I.lt) hf)
    ⟨fun z => (List.mem_cons.mp (I.stkSub _ z)).elim n1 (I.nofs hf), n1, I.nofs hf⟩
  refine PySem.W.kla_eval hdef ?_
  rcases hc : codeAmong pos ps.toList with _ | cv
  · refine PySem.W.kla_makeFunction (mg := X.mg) (c := c) (P := P) (ps := ps) (closure_ok hfree) I.ok.glob (I.mod.glob.keeps I.bk) hcode (TB.code.keeps I.bk) gP ht hc TB.gP bP fun c' ctv h' tk hx hge hlt ⟨c2, oc, vs, t, e2, hoc, hd, hv⟩ htb => ?_
    cases e2
    have nC : H c' = none := I.hok.fresh hge
    have hsz : s.heap.objs.size ≤ h'.objs.size := Nat.le_trans hge (Nat.le_of_lt hlt)
    have J := LamX.inv_table (t' := tk) (q := X.env.qual ++ "<lambda>") (more := #[rawInt pos.line, rawInt pos.col, .ref c']) (h' := h'.push (PySem.W.kla_obj "<lambda>" (X.env.qual ++ "<lambda>") params body scope (cloFrom X.env.cells scope.names []) ((X.mg "__name__").getD .none) c' ctv)) I hP
      (fun b o hb e => Heap.get?_push_of_some _ (hx b o hb e)) (Heap.get?_push_of_some _ htb) hge ⟨oc, vs, t, Heap.get?_push_of_some _ hoc, hd, hv⟩
    have kp : ∀ b o, b ≠ P → H b = some o → upd (upd H P (.tbl (ps ++ #[rawInt pos.line, rawInt pos.col, .ref c']))) c' (LamX.CodeO c' (X.env.qual ++ "<lambda>")) b = some o := fun b o nb e => by rw [upd_ne (ne_of_none e nC), upd_ne nb]; exact e
    have nPc : P ≠ c' := ne_of_none hP nC
    have eL : (ps ++ #[rawInt pos.line, rawInt pos.col, .ref c']).toList = ps.toList ++ [rawInt pos.line, rawInt pos.col, .ref c'] := by simp
    refine h h'.objs.size c' ((X.mg "__name__").getD .none) ctv _ _ J kp ⟨_, by rw [upd_ne nPc, upd_same], by rw [eL]; exact PySem.TriplesOk_snoc _ _ _ _ ht, fun p' w hw => ?_⟩ (Heap.get?_push_size _ rfl) ?_ (out _ hsz) upd_same hsz
    · rw [eL] at hw
      rcases LamX.among_app _ ht hw with z | z
      · obtain ⟨c0, e1, e2⟩ := ha p' w z
        exact ⟨c0, e1, kp _ _ (fun z => by rw [z, hP] at e2; exact LamX.codeO_ne ps (Option.some.inj e2).symm) e2⟩
      · exact ⟨c', z, upd_same⟩
    · rw [upd_ne (Nat.ne_of_gt hlt), upd_ne (Nat.ne_of_gt (Nat.lt_of_lt_of_le (Heap.lt_size gP) hsz))]
      exact I.hok.fresh hsz
  · obtain ⟨c', e, hco⟩ := ha pos cv hc
    subst e
    refine PySem.W.kla_makeFunctionHit (mg := X.mg) (c := c) (P := P) (ps := ps) (closure_ok hfree) I.ok.glob (I.mod.glob.keeps I.bk) hcode (TB.code.keeps I.bk) gP ht hc bP fun ctv h' tk hx hsz => ?_
    exact h h'.objs.size c' ((X.mg "__name__").getD .none) ctv H _ (I.kept (t' := tk) fun b o e => Heap.get?_push_of_some _ (hx b o e)) (fun _ _ _ e => e) ⟨ps, hP, ht, ha⟩ (Heap.get?_push_size _ rfl) (I.hok.fresh hsz) (out _ hsz) hco hsz
end
section
variable {K : PySem.W.Frag} {F : Fm} {δ : List Slot} {σ : L2.St} {H H1 : Hp} {P : Addr}
theorem En.tabAt (en : En K F δ σ H) (m : P ∈ F.B) (h2 : 2 ≤ F.B.count P) : LamX.TabS H P (lamQ (F.B.count P)) := by
  rcases en.glo.bags _ m with ⟨z, _⟩ | ⟨_, ps, g1, g2, g3⟩
  · omega
  · exact ⟨ps, g1, g2, fun pos cv hc => let ⟨c, e1, e2⟩ := g3 pos cv hc; ⟨c, e1, mask_le _ _ e2⟩⟩
/-- after a lambda was made -/
theorem En.lamMade (en : En K F δ σ H) (m : P ∈ F.B) (h2 : 2 ≤ F.B.count P) (k : ∀ b o, b ≠ P → H b = some o → H1 b = some o) (T1 : LamX.TabS H1 P (lamQ (F.B.count P))) : En K F δ σ H1 ∧ Kp F.B H H1 ∧ ∀ c q, H1 c = some (LamX.CodeO c q) → c ∉ msk F δ := by
  have kp : Kp F.B H H1 := fun a o n e => k a o (fun z => n (z ▸ m)) e
  obtain ⟨ps1, t1, t2, t3⟩ := T1
  have nc1 : ∀ a ∈ msk F δ, NC (H1 a) := fun a ma => by
    by_cases z : a = P
    · rw [z, t1]; exact nc_tbl
    · obtain ⟨o, e, n⟩ := en.nc a ma
      exact ⟨o, k a o z e, n⟩
  have out : ∀ c q, H1 c = some (LamX.CodeO c q) → c ∉ msk F δ := fun c q e mc => by
    obtain ⟨o, e2, n⟩ := nc1 c mc
    rw [e] at e2
    exact n _ (Option.some.inj e2).symm
  have km : ∀ a o, mask (msk F δ) H a = some o → mask (msk F δ) H1 a = some o := fun a o e => by
    obtain ⟨n, e⟩ := of_mask e
    exact mask_of n (kp a o (fun z => n (mem_msk.mpr (.inl z))) e)
  refine ⟨en.step kp ⟨nc1, fun b mb => ?_, fun a ma => ?_⟩, kp, out⟩
  · by_cases z : b = P
    · subst z
      refine .inr ⟨h2, ps1, t1, t2, fun pos cv hc => ?_⟩
      obtain ⟨c, e1, e2⟩ := t3 pos cv hc
      exact ⟨c, e1, mask_of (out c _ e2) e2⟩
    · obtain ⟨o, e⟩ := (en.glo.bags b mb).some
      exact (en.glo.bags b mb).kp ((k b o z e).trans e.symm) km
  · obtain ⟨xs, e⟩ := en.glo.zl a ma
    refine ⟨xs, kp a _ (fun z => ?_) e⟩
    rcases List.mem_append.mp ma with ma | ma
    · exact en.dj a ma (List.mem_append_left _ z)
    · exact en.zm a ma (en.bm a z)
end
end Tl

set_option linter.all false
set_option maxRecDepth 100000
set_option maxHeartbeats 4000000
/-! TlQ: f(lambda ..: .., e, ..). -/
namespace Tl
open PySem PySem.Spec PyProof.Rows L2
theorem pe_lam {X : Cx} {ex : Value → Prop} {δ : List Slot} {k : D → Prop} (it : Nat) {P c g : Addr} {n m : Nat} {x q : Str} {pg params : Arguments} {bg : List Stmt} {sg scope : Scope} {dV kV doc pm cdv ct oc : Value} {an od : Option Addr} {osl : Array (Option Value)} {Ng ps NL psL : List Str}
    {body e1 : Expr} {es : List Expr} {p lpos pos : Pos} {S : Ct} {R : List Slot → (D → Prop) → Prop} (hi : δ[it]? = some (.tab P n)) (hn : 2 ≤ n) (hq : lamQ n = q) (hq2 : X.env.qual ++ "<lambda>" = q) (TB : LamX.TabB X.base X.mg c P) (hcode : X.env.code = .ref c)
    (hg : Gl X x) (hm : X.mg x = some (.ref g)) (hk : PySem.W.keepIn X.K (.ref g) = true) (lk : X.K.lookup g = some ⟨oc, od, .func (PySem.W.fnOf x x pg bg sg dV kV doc pm an cdv ct), osl⟩) (hcg : PySem.W.codeIn X.K cdv x = true) (hb : L2.Binds X.K (PySem.W.fnOf x x pg bg sg dV kV doc pm an cdv ct) ps [])
    (Sg : FnScope Ng ps sg) (hNg : ps.length ≤ Ng.length) (hr : Room (m + 2) X.A) (SL : FnScope NL psL scope) (hNL : psL.length ≤ NL.length) (hdef : defaultsOf params X.env = ([], [])) (hfree : ∀ y ∈ scope.names, y.2 ≠ .free) (hclo : ∀ cells, cloFrom cells scope.names [] = [])
    (hbind : ∀ (pm cv ctv : Value) (us : List Value), us.length = psL.length → bindArgs (PySem.W.kla_fn "<lambda>" q params body scope [] pm cv ctv) ⟨us, []⟩ = pure (psL.zip us))
    (lenS : ∀ ss k ex, S ss k ex → ss.length = psL.length) (lenR : ∀ ss k, R ss k → ss.length + 1 = ps.length)
    (lbody : ∀ (f c' : Addr) (A : Around) (outer : List Env) (s : Shared) (H : Hp) (E : XK) (ss : List Slot) (kk : D → Prop) (ex : Value → Prop), Room m (A.deeper (envOfC q scope s.heap.objs.size f (.ref c'))) → S ss kk ex →
      Pe (cxOf (L2N.CX X.prog X.w) X.prog X.w X.K X.mg X.base NL q scope f (.ref c') A outer s H E) ex (ss ++ List.replicate (NL.length - psL.length) .un) body kk)
    (gbody : ∀ (f c' : Addr) (A : Around) (outer : List Env) (s : Shared) (H : Hp) (E : XK) (ss : List Slot) (kk : D → Prop), LamAt X.prog X.w X.K X.mg X.base A outer s H f c' q S → Room (m + 1) (A.deeper (envOfC x sg s.heap.objs.size g cdv)) → R ss kk →
      Pss (cxOf (L2N.CX X.prog X.w) X.prog X.w X.K X.mg X.base Ng x sg g cdv A outer s H E) ((.lam f c' q :: ss) ++ List.replicate (Ng.length - ps.length) .un) bg { nx := fun _ => kk .none, rt := kk, ex := nope })
    (h : Pa X ex δ (e1 :: es) fun ss => R ss k)
    (hdb : (x == ("__debug__" : Str)) = false := by decide) (hst : starEach (.Lambda params body scope lpos :: e1 :: es) X.env = (false, eval (.Lambda params body scope lpos) X.env) :: starEach (e1 :: es) X.env := by rfl)
    (hpl : (backTo pos (starEach (e1 :: es) X.env)).any (·.1) = false := by rfl) (hbt : backTo pos (starEach (.Lambda params body scope lpos :: e1 :: es) X.env) = (false, eval (.Lambda params body scope lpos) X.env) :: backTo pos (starEach (e1 :: es) X.env) := by rfl) :
    Pe X ex δ (.Call (.Name x p) (.Lambda params body scope lpos :: e1 :: es) [] pos) k := fun F σ H en tk pins s I => by
  obtain ⟨hPB, hPn⟩ := en.sl it _ hi
  have h2 : 2 ≤ F.B.count P := by rw [hPn]; exact hn
  have hT := en.tabAt hPB h2
  rw [hPn, hq] at hT
  refine wpAny_Call_Name_kw (ld_glob I hg hm ?_ hdb)
  refine PySem.W.callWith_K (h₀ := X.base) I.ok.mod.kin hk ?_ hst hpl
  rw [hbt]
  refine Calls.spliced_cons (lam_made I TB hcode hT hq2.symm hdef (fun y hy e => absurd e (hfree y hy)) fun f c' pm' ctv H1 s' I1 kp T1 hf hfn hfr hco _ => ?_)
  rw [hclo] at hf
  obtain ⟨en1, k1, out⟩ := en.lamMade hPB h2 kp (by rw [hPn, hq]; exact T1)
  have fL := hfr.2
  have I1' : Inv X (pins ++ [(f, PySem.W.kla_obj "<lambda>" q params body scope [] pm' c' ctv)]) σ H1 s' := I1.pins_of fun z hz => by
    rcases List.mem_append.mp hz with hz | hz
    · exact I1.pin z (List.mem_append_right _ hz)
    · rw [List.mem_singleton.mp hz]
      exact ⟨hf, hfn, fL.1, fL.2, fun v z => by cases z⟩
  refine thn (h F σ H1 en1 tk pos _ s' I1') fun us s2 ⟨vs, H2, I2, r, en2, k2, ss, ha, q2⟩ => ⟨I2.kIn, ?_⟩
  have P2 := I2.pin (f, PySem.W.kla_obj "<lambda>" q params body scope [] pm' c' ctv) (List.mem_append_right _ (List.mem_append_right _ (List.mem_singleton.mpr rfl)))
  have hco2 : mask (msk F δ) H2 c' = some (LamX.CodeO c' q) := kp_msk k2 _ _ (mask_of (out c' q hco) hco)
  have hl : vs.length + 1 = ps.length := by rw [← sargs_len ha]; exact lenR _ _ q2
  have hZ : ∀ a ∈ owns δ ++ F.Z, a ∉ F.B := fun a m z => (List.mem_append.mp m).elim (fun m => en2.dj a m (List.mem_append_left _ z)) (fun m => en2.zm a m (en2.bm a z))
  have L : LamAt X.prog X.w X.K X.mg X.base X.A X.stack s2 H2 f c' q S := ⟨_, P2.1, ⟨_, rfl⟩, P2.2.1, hfr.1, mask_le _ _ hco2, fun s1 H1 us vs Q E g1 g2 env e0 r1 hsp => by
    have hlv : vs.length = psL.length := by
      obtain ⟨B, Z, ss, kk, ex, _, _, ha, hS, _⟩ := hsp
      rw [← sargs_len ha]
      exact lenS ss kk ex hS
    exact lam_run SL g1 g2 (hr.deeper env) e0 (hbind _ _ _ us (by rw [← r1.length]; exact hlv)) r1 hlv fun hr3 => lam_keeps hNL lenS (lbody f c') hsp hr3⟩
  have hq9 : ∀ d, k d → ∀ v H', Kp F.B H2 H' → Glo F.B (owns δ ++ F.Z) H' → Td (mask (F.B ++ (owns δ ++ F.Z)) H') v d → En X.K F δ σ H' ∧ Kp F.B H H' ∧ ∃ d, Td (mask (msk F δ) H') v d ∧ k d := fun d hd v H' kp' g t => ⟨en2.step kp' g, (k1.trans k2).trans kp', d, t, hd⟩
  have ha2 : SArgs X.K F.B (F.B ++ (owns δ ++ F.Z)) H2 (.lam f c' q :: ss) (.ref f :: vs) := .cons ⟨rfl, rfl, hco2⟩ ha
  have rc : codeAny (model X.prog X.w) X.A (.call (.ref g) ⟨.ref f :: us, []⟩) (CR (L2N.CX X.prog X.w) X.stack X.prog X.w H2 s2 (fun v H' => En X.K F δ σ H' ∧ Kp F.B H H' ∧ ∃ d, Td (mask (msk F δ) H') v d ∧ k d) (fun _ _ _ => False)) s2 := by
    refine LamX.run_ofS (N := Ng) (ps := ps) (us := .ref f :: us) (vs := .ref f :: vs) lk hcg Sg hr I2.env0 ?_ (.cons rfl r) (by rw [List.length_cons]; exact hl) fun hr' => ?_
    · have z := hb s2 (.ref f :: us) I2.kIn (by rw [List.append_nil, List.length_cons, ← r.length]; exact hl)
      rw [List.append_nil] at z
      exact z
    · have e := en_start (N := Ng) en2.glo ha2 (by rw [List.length_cons, hl]; exact hNg) hZ
      rw [show (Slot.lam f c' q :: ss).length = ps.length by rw [List.length_cons]; exact lenR _ _ q2] at e
      refine ⟨_, pss_self, wss_mono (gbody f c' X.A X.stack s2 H2 _ ss k L hr' q2 _ _ H2 e ((L2N.takes_of rfl rfl rfl rfl).imp fun _ _ _ _ z => z.2.2.2)) ⟨?_, ?_, ?_, ?_⟩⟩
      · rintro σ' H' ⟨δ', e', h'⟩
        exact hq9 _ h' _ _ e'.base (e'.glo.sub fun a m => List.mem_append_right _ m) .non
      · rintro v H' ⟨k3, g3, d, t, h'⟩
        exact hq9 d h' v H' k3 g3 t
      · rintro σ' H' ⟨_, _, h'⟩
        exact h'.elim
      · rintro σ' H' ⟨_, _, h'⟩
        exact h'.elim
  refine wpAny_call (codeAny_mono rc fun r s3 hq => ?_)
  cases r with
  | error e =>
    obtain ⟨_, _, _, _, _, _, _, _, _, _, _, _, z⟩ := hq
    exact z.elim
  | ok fl =>
    cases fl with
    | ret u =>
      obtain ⟨v, H', J, rv, z⟩ := I2.after hq
      exact ⟨v, H', J.pins_of fun z hz => J.pin z (List.mem_append_right _ (List.mem_append_left _ hz)), rv, z⟩
    | next => exact False.elim hq
    | brk => exact False.elim hq
    | cont => exact False.elim hq
end Tl

set_option linter.all false
set_option maxRecDepth 100000
set_option maxHeartbeats 4000000
namespace Tl
open PySem PySem.Spec PyProof.Rows L2
/-- a law's body: for bag in _law_bags(script, m): body; then the rest. Every turn begins with the script alone -/
theorem law_runT {X : Cx} {A : AE} {pos p p2 p3 p4 p5 : Pos} {y : Str} {j j2 : Nat} {m : Int} {body rest : List Stmt} {n n2 N : Nat} {ns : List Int} {P : Addr} {nP : Nat} (T : List Addr) (hPT : P ∈ T) (hPn : T.count P = nP) (G : OkBags X.prog X.w X.K X.mg X.base n) (hr : Room n2 X.A) (hn : n ≤ n2)
    (hp : PassesOwn (model X.prog X.w) X.A X.env X.xe) (hc : X.calm = true) (hN : X.N.Nodup) (hm0 : 0 ≤ m) (hm1 : m ≤ 1000) (hj0 : 0 < j) (ha : A.ex = nope)
    (step : ∀ b, Pss X ((Slot.tab P nP :: List.replicate N .un).set j (.bag b)) body { nx := fun δ => δ[0]? = some (.tab P nP) ∧ δ.length = N + 1, ct := fun δ => δ[0]? = some (.tab P nP) ∧ δ.length = N + 1, rt := A.rt })
    (done : Pss X (Slot.tab P nP :: List.replicate N .un) rest A)
    {a : Addr} {H : Hp} {σ : L2.St} (gT : Glo T [] H) (hT2 : ∀ p ∈ T, 2 ≤ T.count p) (hσ : σ.length = N + 1) (h0 : σ[0]? = some (some (.ref a))) (hS : SqL X.K H a (ns.map V.int)) (tk : L2N.Takes X (fun _ _ _ _ => False))
    (hj : X.N[j]? = some y := by rfl) (hNi : X.N[0]? = some ("script" : Str) := by rfl) (hy : Loc X.env.scope y := by first | exact Or.inl rfl | exact Or.inr rfl) (hf : X.fn y = true ∨ X.env.scope.names.lookup y = some .local := by first | exact .inl rfl | exact .inr rfl | assumption)
    (hv : Vis X.env.scope "script" := by first | exact Or.inl rfl | exact Or.inr (Or.inl rfl) | exact Or.inr (Or.inr rfl)) (hg : Gl X "_law_bags" := by rfl)
    (he : starEach [.Name "script" p3, .Constant (.int m) j2 p4] X.env = (false, eval (.Name "script" p3) X.env) :: starEach [.Constant (.int m) j2 p4] X.env := by rfl) (he2 : starEach [.Constant (.int m) j2 p4] X.env = (false, eval (.Constant (.int m) j2 p4) X.env) :: starEach [] X.env := by rfl)
    (hpl : (backTo p5 (starEach [.Constant (.int m) j2 p4] X.env)).any (·.1) = false := by rfl)
    (hs : ∀ x, foldedSetIterable (.Call (.Name "_law_bags" p2) [.Name "script" p3, .Constant (.int m) j2 p4] [] p5) X.env x = pure x := by intro _; rfl) :
    WSs X (.For (.Name y p) (.Call (.Name "_law_bags" p2) [.Name "script" p3, .Constant (.int m) j2 p4] [] p5) body [] pos :: rest) (cz X.K { mu := T, h0 := H, B := T, Z := [] } A) σ H := by
  obtain ⟨f, fd, G, h1, h2, h3⟩ := G.ex
  have eo : owns (Slot.tab P nP :: List.replicate N .un) = [] := by
    induction N with
    | zero => rfl
    | succ n ih => exact (show owns (Slot.scr ns :: .un :: List.replicate n .un) = [] from (by
        have : ∀ k, owns (List.replicate k Slot.un) = [] := by
          intro k
          induction k with
          | zero => rfl
          | succ k ih => exact ih
        exact this (n + 1)))
  have takesF : ∀ F : Fm, L2N.Takes X (Wx F nope) := fun F => tk.imp fun _ _ _ _ z => z.2.2.2
  refine wss_of (L2.pss_cons (L2.ps_for hp hc (pi_list (L2.pe_call G (hr.mono hn) hg h1 h2 h3 .nil (passesW (F := { mu := T, h0 := H, B := T, Z := [] }) (ex := nope) (takesF _)) (L2.pa_cons (pe_var hNi hv) (L2.pa_cons L2.pe_int L2.pa_nil he2) he) (by decide) he hpl)) (pg_name hN hj hy hf) pss_self hs) pss_self) ?_
  refine ⟨_, h0, ?_⟩
  refine ⟨a, ns, m, rfl, hS, hm0, hm1, fun L bs H1 sm hL eL nL nd hb => ⟨L, rfl, ⟨_, .of eL⟩, ?_⟩⟩
  have hTt : ∀ p ∈ T, ∃ ps, H p = some (.tbl ps) := fun p m => by
    rcases gT.bags p m with ⟨z, _⟩ | ⟨_, ps, z, _⟩
    · have := hT2 p m; omega
    · exact ⟨ps, z⟩
  have hTt1 : ∀ p ∈ T, ∃ ps, H1 p = some (.tbl ps) := fun p m => by
    obtain ⟨ps, z⟩ := hTt p m
    exact ⟨ps, sm _ _ z⟩
  have nT : ∀ b ∈ bs, b ∉ T := fun b m z => by
    obtain ⟨ps, q⟩ := hTt b z
    have q2 := (hb b m).new
    rw [q] at q2; cases q2
  have LT : L ∉ T := fun z => by
    obtain ⟨ps, q⟩ := hTt L z
    rw [hL] at q; cases q
  have hBs : ∀ b ∈ bs ++ T, BagK ((bs ++ T).count b) ((bs ++ T) ++ []) H1 b := fun b m => by
    rw [List.count_append]
    by_cases z : b ∈ bs
    · refine .inl ⟨?_, (hb b z).bag hb hTt1⟩
      have h1 : T.count b = 0 := List.count_eq_zero.mpr (nT b z)
      have h2 := List.nodup_iff_count.mp nd b
      omega
    · have h1 : bs.count b = 0 := List.count_eq_zero.mpr z
      rw [h1, Nat.zero_add]
      have mT : b ∈ T := (List.mem_append.mp m).resolve_left z
      obtain ⟨o, ho⟩ := (gT.bags b mT).some
      refine (gT.bags b mT).kp ((sm _ _ ho).trans ho.symm) fun a' o' e => ?_
      obtain ⟨n1, e⟩ := of_mask e
      refine mask_of (fun m => ?_) (sm _ _ e)
      rw [List.append_nil] at m n1
      rcases List.mem_append.mp m with m | m
      · have q2 := (hb a' m).new
        rw [e] at q2; cases q2
      · exact n1 m
  have hF : ∀ {δ' : List Slot} {σ' : L2.St} {H' : Hp}, En X.K { mu := bs ++ T, h0 := H1, B := bs ++ T, Z := [] } δ' σ' H' → δ'[0]? = some (.tab P nP) → δ'.length = N + 1 → En X.K { mu := bs ++ T, h0 := H1, B := bs ++ T, Z := [] } (Slot.tab P nP :: List.replicate N .un) σ' H' := fun {δ' σ' H'} e h hl => by
    have := e.only h rfl
    rw [hl] at this
    exact this
  have hback : ∀ {σ' : L2.St} {H' : Hp}, En X.K { mu := bs ++ T, h0 := H1, B := bs ++ T, Z := [] } (Slot.tab P nP :: List.replicate N .un) σ' H' → En X.K { mu := T, h0 := H, B := T, Z := [] } (Slot.tab P nP :: List.replicate N .un) σ' H' := fun {σ' H'} e => by
    have em : msk { mu := T, h0 := H, B := T, Z := [] } (Slot.tab P nP :: List.replicate N .un) = T ++ [] := by unfold msk; rw [eo]; rfl
    have em2 : msk { mu := bs ++ T, h0 := H1, B := bs ++ T, Z := [] } (Slot.tab P nP :: List.replicate N .un) = (bs ++ T) ++ [] := by unfold msk; rw [eo]; rfl
    have sub : ∀ a ∈ T ++ ([] : List Addr), a ∈ (bs ++ T) ++ ([] : List Addr) := fun a m => by
      rw [List.append_nil] at *
      exact List.mem_append_right _ m
    refine ⟨e.len, fun i s h => ?_, e.nd, fun a m => (nomatch (eo ▸ m : a ∈ ([] : List Addr))), fun a m => (nomatch (eo ▸ m : a ∈ ([] : List Addr))), fun a m => m, fun a m => (nomatch m), fun a o nm h => e.base a o (fun z => ?_) (sm a o h), ?_⟩
    · rw [em]
      have q := e.sl i s h
      rw [em2] at q
      cases i with
      | zero =>
        have h : Slot.tab P nP = s := by simpa using h
        subst h
        exact ⟨hPT, hPn⟩
      | succ i =>
        have h : (List.replicate N Slot.un)[i]? = some s := by simpa using h
        rw [List.getElem?_replicate] at h
        split at h
        · cases h; exact True.intro
        · cases h
    · rcases List.mem_append.mp z with z | z
      · have q := (hb a z).new
        exact nomatch (show some o = none from h.symm.trans q)
      · exact nm z
    · have g := e.glo
      rw [eo] at g ⊢
      refine ⟨fun a m => g.there a (sub a m), fun b m => ?_, fun a m => by simp at m⟩
      have q := g.bags b (List.mem_append_right _ m)
      have ec : (bs ++ T).count b = T.count b := by
        rw [List.count_append, List.count_eq_zero.mpr (fun z => nT b z m), Nat.zero_add]
      rw [← ec]
      exact q.kp rfl (mask_sub sub)
  refine for_it (n := bs.length) (tb := WSs X body) (D := { cz X.K { mu := T, h0 := H, B := T, Z := [] } A with nx := WSs X rest (cz X.K { mu := T, h0 := H, B := T, Z := [] } A) })
    (Pv := fun _ σ' H' => En X.K { mu := bs ++ T, h0 := H1, B := bs ++ T, Z := [] } (Slot.tab P nP :: List.replicate N .un) σ' H') (G := Kp (bs ++ T) H1) (Y := YAt (bs.map V.ref)) ?_ ?_ (fun _ _ _ _ e => e.base) ?_ ?_
  · have := (walk_list (K := X.K) (a := L) (xs := bs.map V.ref)).mono (G' := Kp (bs ++ T) H1) (Y' := YAt (bs.map V.ref)) (fun H' k => .of (k L _ (fun z => (List.mem_append.mp z).elim nL LT) eL)) fun _ _ _ _ _ _ y => y
    rw [List.length_map] at this
    exact this
  · have em : msk { mu := bs ++ T, h0 := H1, B := bs ++ T, Z := [] } (Slot.tab P nP :: List.replicate N .un) = (bs ++ T) ++ [] := by unfold msk; rw [eo]; rfl
    refine ⟨by rw [hσ, List.length_cons, List.length_replicate], fun i s h => ?_, by rw [eo]; exact .nil, fun a m => (nomatch (eo ▸ m : a ∈ ([] : List Addr))), fun a m => (nomatch (eo ▸ m : a ∈ ([] : List Addr))), fun a m => m, fun a m => (nomatch m), .refl _, ?_⟩
    · cases i with
      | zero =>
        have h : Slot.tab P nP = s := by simpa using h
        subst h
        refine ⟨List.mem_append_right _ hPT, ?_⟩
        show (bs ++ T).count P = nP
        rw [List.count_append, List.count_eq_zero.mpr (fun z => nT P z hPT), Nat.zero_add]
        exact hPn
      | succ i =>
        have h : (List.replicate N Slot.un)[i]? = some s := by simpa using h
        rw [List.getElem?_replicate] at h
        split at h
        · cases h; exact True.intro
        · cases h
    · rw [eo]
      refine ⟨fun a m => ?_, hBs, fun a m => by simp at m⟩
      have m : a ∈ (bs ++ T) ++ [] := m
      rw [List.append_nil] at m
      rcases List.mem_append.mp m with m | m
      · obtain ⟨_, dr, n', ns', g1, _⟩ := hb a m
        rw [g1]
        exact nc_lst
      · obtain ⟨ps, q⟩ := hTt1 a m
        rw [q]
        exact nc_tbl
  · rintro i x σ' H' H'' hi en ⟨e1, e2⟩
    subst e1
    rw [List.getElem?_map] at e2
    cases hq : bs[i]? with
    | none => rw [hq] at e2; cases e2
    | some b =>
      rw [hq] at e2
      cases e2
      have mb : b ∈ bs := List.mem_of_getElem? hq
      have e3 := en.put (i := j) (s := .bag b) (v := .ref b) rfl ⟨rfl, List.mem_append_left _ mb, by
        have h1 : T.count b = 0 := List.count_eq_zero.mpr (nT b mb)
        have h2 := List.nodup_iff_count.mp nd b
        show (bs ++ T).count b ≤ 1
        rw [List.count_append]; omega⟩
      refine wss_mono (step b _ _ _ e3 (takesF _)) ⟨fun σ5 H5 ⟨δ5, e5, q5⟩ => ?_, fun v H5 ⟨k, g, d, t, q⟩ => ?_, fun σ5 H5 ⟨_, _, z⟩ => z.elim, fun σ5 H5 ⟨δ5, e5, q5⟩ => ?_⟩
      · exact hF e5 q5.1 q5.2
      · refine ⟨fun a o nm e => k a o (fun z => ?_) (sm a o e), ⟨fun a m => ?_, fun a m => ?_, fun a m => nomatch m⟩, d, t.mono (mask_sub fun a (m : a ∈ T ++ ([] : List Addr)) => ?_), q⟩
        · rcases List.mem_append.mp z with z | z
          · have q := (hb a z).new
            exact nomatch (show some o = none from (show H a = some o from e).symm.trans q)
          · exact nm z
        · exact g.there a (by rw [List.append_nil] at *; exact List.mem_append_right _ m)
        · have q := g.bags a (List.mem_append_right _ m)
          have ec : (bs ++ T).count a = T.count a := by
            rw [List.count_append, List.count_eq_zero.mpr (fun z => nT a z m), Nat.zero_add]
          rw [← ec]
          exact q.kp rfl (mask_sub fun a m => by rw [List.append_nil] at *; exact List.mem_append_right _ m)
        · rw [List.append_nil] at *
          exact List.mem_append_right _ m
      · exact hF e5 q5.1 q5.2
  · intro σ' H' e
    exact done _ σ' H' (hback e) (by rw [ha]; exact takesF _)
end Tl

set_option linter.all false
set_option maxRecDepth 100000
set_option maxHeartbeats 4000000
namespace Tl
open PySem PySem.Spec PyProof.Rows L2
section
variable {X : Cx} {ex : Value → Prop} {δ : List Slot} {a b : Expr} {pos : Pos} {k : D → Prop}
/-- a tuple times an int -/
theorem d2_repT {K : PySem.W.Frag} {x y : D} (h : ∃ xs n, x = .tuple xs ∧ y = .int n ∧ xs ≠ [] ∧ 2 ≤ n ∧ n ≤ 1000 ∧ xs.length ≤ 1000 ∧ k (.tuple (List.replicate n.toNat xs).flatten)) : D2 (rRepT K) x y k := by
  obtain ⟨xs, n, e1, e2, h0, h1, h2, h3, q⟩ := h
  subst e1 e2
  intro M H v u hM t t' Q hq
  cases t with
  | @tup a ws _ e z t =>
    cases t'
    have hl := t.length
    refine ⟨a, n, ws, rfl, rfl, .of (mask_le _ _ e), fun z => ?_, h1, h2, by rw [hl]; exact h3, fun p hp => ?_⟩
    · subst z
      cases t
      exact h0 rfl
    have tt : ∀ m : Nat, Tds (mask M H) (List.replicate m ws).flatten (List.replicate m xs).flatten := by
      intro m
      induction m with
      | zero => exact .nil
      | succ m ih =>
        rw [List.replicate_succ, List.replicate_succ, List.flatten_cons, List.flatten_cons]
        exact Tds.app t ih
    refine hq _ _ _ (same_upd hp) (.tup (mask_new hM hp) ?_ ((tt _).mono (same_mask (same_upd hp)))) q
    have : (List.replicate n.toNat ws).flatten.length = n.toNat * ws.length := by simp
    rw [this, sizeLine_eq, hl]
    exact Nat.le_trans (Nat.mul_le_mul (show n.toNat ≤ 1000 by omega) h3) (by decide)
theorem pe_repT (h : Pe X ex δ a fun x => Pe X ex δ b fun y => ∃ xs n, x = .tuple xs ∧ y = .int n ∧ xs ≠ [] ∧ 2 ≤ n ∧ n ≤ 1000 ∧ xs.length ≤ 1000 ∧ k (.tuple (List.replicate n.toNat xs).flatten)) : Pe X ex δ (.BinOp a .Mult b pos) k := pe_bo op_repT (h.mono fun _ h => h.mono fun _ h => d2_repT h)
end
end Tl

set_option linter.all false
set_option maxRecDepth 100000
set_option maxHeartbeats 4000000
/-! TlU: lambdas as data of their own: made, kept in a name, handed on. -/
namespace Tl
open PySem PySem.Spec PyProof.Rows L2
section
variable {X : Cx} {pins : List (Addr × Obj)} {σ : L2.St} {H : Hp} {s : Shared}
/-- an object that stands and was not known is known from now on -/
theorem inv_add {f : Addr} {ob : Obj} (I : Inv X pins σ H s) (hf : s.heap.get? f = some ob) (hn : H f = none) (h0 : X.s_0.heap.objs.size ≤ f) (hl : f ≠ X.env.locals) (hcell : ∀ v, ob.data ≠ .cell v) (hpin : ∀ p ∈ X.pn ++ pins, p.1 ≠ f) : Inv X pins σ (upd H f (LamO f ob)) s := by
  have lt0 : ∀ b o, X.s_0.heap.get? b = some o → b ≠ f := fun b o e z => by
    rw [z] at e
    exact Nat.lt_irrefl _ (Nat.lt_of_lt_of_le (Heap.lt_size e) h0)
  have ne : ∀ b u, H b = some u → b ≠ f := fun b u e => ne_of_none e hn
  refine ⟨I.ok, I.os, I.bare, ⟨I.base.keep, I.base.slot, fun b o e n x => by rw [upd_ne (lt0 b o e)]; exact I.base.free b o e n x, I.base.there, fun b xs e => ?_, fun b o u e => ?_, fun b ps e => ?_⟩, I.loc, I.cell, by rw [upd_ne (Ne.symm hl)]; exact I.free, fun x c e => ?_, fun p hp => ?_, fun b u e => ?_, I.len⟩
  · have z := I.base.tups b xs e
    rw [upd_ne (ne b _ z)]; exact z
  · have z := I.base.frzs b o u e
    rw [upd_ne (ne b _ z)]; exact z
  · obtain ⟨more, z⟩ := I.base.tbls b ps e
    exact ⟨more, by rw [upd_ne (ne b _ z)]; exact z⟩
  · obtain ⟨v, o, ho, hd⟩ := I.cell x c e
    have hc : c ≠ f := fun z => by
      rw [z, hf] at ho
      cases ho
      exact hcell v hd
    rw [upd_ne hc]; exact I.freeC x c e
  · obtain ⟨a, b, c⟩ := I.pin p hp
    exact ⟨a, by rw [upd_ne (hpin p hp)]; exact b, c⟩
  · by_cases hb : b = f
    · subst hb
      rw [upd_same] at e
      cases e
      exact ⟨hf, ⟨_, hf⟩, fun h1 h2 a st => st _ a⟩
    · rw [upd_ne hb] at e
      exact (I.hok b u e).stay (fun d v _ q => q) (fun d q => by rw [upd_ne (ne d _ q)]; exact q) fun d xs q => by rw [upd_ne (ne d _ q)]; exact q
end
/-- what the lambda at f does, wherever it is called -/
structure LamFn (P : Program) (w : World) (K : PySem.W.Frag) (mg : Str → Option Value) (base : Heap) (m : Nat) (f c' : Addr) (q : Str) (ob : Obj) (S : Ct) : Prop where
  fd : ∃ fd, ob.data = .func fd
  run : ∀ (A : Around) (outer : List Env) (s1 : Shared) (H1 : Hp) (us : List Value) (vs : List V) (Q : VK) (E : XK), Room (m + 1) A → H1 f = some (LamO f ob) → H1 c' = some (LamX.CodeO c' q) → Env0 P w K mg base A outer s1 H1 → Vals vs us → spS K S vs H1 Q E →
    codeAny (model P w) A (.call (.ref f) ⟨us, []⟩) (CR (L2N.CX P w) outer P w H1 s1 Q E) s1
/-- the making of a lambda that captures nothing -/
def tL (X : Cx) (P : Addr) (q : Str) (m : Nat) (S : Ct) : TE := fun _ H Q => LamX.TabS H P q ∧ ∀ (f c' : Addr) (ob : Obj) (H1 : Hp), LamFn X.prog X.w X.K X.mg X.base m f c' q ob S → (∀ b o, b ≠ P → H b = some o → H1 b = some o) → LamX.TabS H1 P q → H1 c' = some (LamX.CodeO c' q) → H1 f = some (LamO f ob) → Q (.ref f) H1
theorem pe_lamL2 {X : Cx} {P c : Addr} {m : Nat} {q : Str} {params : Arguments} {scope : Scope} {NL psL : List Str} {body : Expr} {lpos : Pos} {S : Ct} (hq2 : X.env.qual ++ "<lambda>" = q) (TB : LamX.TabB X.base X.mg c P) (hcode : X.env.code = .ref c)
    (SL : FnScope NL psL scope) (hNL : psL.length ≤ NL.length) (hdef : defaultsOf params X.env = ([], [])) (hfree : ∀ y ∈ scope.names, y.2 ≠ .free) (hclo : ∀ cells, cloFrom cells scope.names [] = [])
    (hbind : ∀ (pm cv ctv : Value) (us : List Value), us.length = psL.length → bindArgs (PySem.W.kla_fn "<lambda>" q params body scope [] pm cv ctv) ⟨us, []⟩ = pure (psL.zip us))
    (lenS : ∀ ss k ex, S ss k ex → ss.length = psL.length)
    (lbody : ∀ (f c' : Addr) (A : Around) (outer : List Env) (s : Shared) (H : Hp) (E : XK) (ss : List Slot) (kk : D → Prop) (ex : Value → Prop), Room m (A.deeper (envOfC q scope s.heap.objs.size f (.ref c'))) → S ss kk ex →
      Pe (cxOf (L2N.CX X.prog X.w) X.prog X.w X.K X.mg X.base NL q scope f (.ref c') A outer s H E) ex (ss ++ List.replicate (NL.length - psL.length) .un) body kk) :
    PE X (.Lambda params body scope lpos) (tL X P q m S) := ⟨fun pins s σ H Q I h => by
  obtain ⟨hT, h⟩ := h
  refine lam_made I TB hcode hT hq2.symm hdef (fun y hy e => absurd e (hfree y hy)) fun f c' pm' ctv H1 s' I1 kp T1 hf hfn hfr hco hsz => ?_
  rw [hclo] at hf
  have hpin : ∀ p ∈ X.pn ++ pins, p.1 ≠ f := fun p hp z => by
    have e := (I.pin p hp).1
    rw [z] at e
    exact Nat.lt_irrefl _ (Nat.lt_of_lt_of_le (Heap.lt_size e) hsz)
  have nf : ∀ b u, H1 b = some u → b ≠ f := fun b u e => ne_of_none e hfn
  have I2 := inv_add I1 hf hfn (Nat.le_trans I.sz hsz) hfr.2.1 (fun v z => by cases z) hpin
  refine ⟨.ref f, _, I2, rfl, h f c' _ _ ⟨⟨_, rfl⟩, fun A outer s1 H1 us vs Q E hr g1 g2 e0 r1 hsp => ?_⟩ (fun b o nb e => by rw [upd_ne (nf b _ (kp b o nb e))]; exact kp b o nb e) ?_ (by rw [upd_ne (nf _ _ hco)]; exact hco) upd_same⟩
  · have hlv : vs.length = psL.length := by
      obtain ⟨B, Z, ss, kk, ex, _, _, ha, hS, _⟩ := hsp
      rw [← sargs_len ha]
      exact lenS ss kk ex hS
    exact lam_run SL (e0.hok f _ g1).1 g2 hr e0 (hbind _ _ _ us (by rw [← r1.length]; exact hlv)) r1 hlv fun hr3 => lam_keeps hNL lenS (lbody f c') hsp hr3
  · obtain ⟨ps1, t1, t2, t3⟩ := T1
    refine ⟨ps1, by rw [upd_ne (nf _ _ t1)]; exact t1, t2, fun pos cv hc => ?_⟩
    obtain ⟨c0, e1, e2⟩ := t3 pos cv hc
    exact ⟨c0, e1, by rw [upd_ne (nf _ _ e2)]; exact e2⟩⟩
section
variable {K : PySem.W.Frag} {F : Fm} {δ : List Slot} {σ : L2.St} {H H1 : Hp} {P : Addr}
theorem En.lamMade2 (en : En K F δ σ H) (m : P ∈ F.B) (h2 : 2 ≤ F.B.count P) (k : ∀ b o, b ≠ P → H b = some o → H1 b = some o) (T1 : LamX.TabS H1 P (lamQ (F.B.count P))) : En K F δ σ H1 ∧ Kp F.B H H1 ∧ ∀ c φ, H1 c = some (.ext φ) → c ∉ msk F δ := by
  obtain ⟨a, b, _⟩ := en.lamMade m h2 k T1
  refine ⟨a, b, fun c φ e mc => ?_⟩
  obtain ⟨o, e2, n⟩ := a.nc c mc
  rw [e] at e2
  exact n φ (Option.some.inj e2).symm
end
section
variable {X : Cx} {ex : Value → Prop} {δ : List Slot}
/-- a lambda as an argument -/
theorem pa_lamA (it : Nat) {P : Addr} {n m : Nat} {q : Str} {params : Arguments} {scope : Scope} {body : Expr} {es : List Expr} {lpos : Pos} {S : Ct} {k : List Slot → Prop} (hi : δ[it]? = some (.tab P n)) (hn : 2 ≤ n) (hq : lamQ n = q)
    (hL : PE X (.Lambda params body scope lpos) (tL X P q m S))
    (h : ∀ f c' ob, LamFn X.prog X.w X.K X.mg X.base m f c' q ob S → Pa X ex δ es fun ss => k (.fn f c' q ob :: ss))
    (hst : starEach (.Lambda params body scope lpos :: es) X.env = (false, eval (.Lambda params body scope lpos) X.env) :: starEach es X.env := by rfl) : Pa X ex δ (.Lambda params body scope lpos :: es) k := fun F σ H en tk => by
  obtain ⟨hPB, hPn⟩ := en.sl it _ hi
  have h2 : 2 ≤ F.B.count P := by rw [hPn]; exact hn
  have hT := en.tabAt hPB h2
  have eq : lamQ (F.B.count P) = q := by rw [hPn, hq]
  rw [eq] at hT
  refine wa_of (L2.pa_cons hL pa_self hst) ⟨hT, fun f c' ob H1 L kp T1 hco hf => ?_⟩
  obtain ⟨en1, k1, out⟩ := en.lamMade2 hPB h2 kp (by rw [eq]; exact T1)
  refine wa_mono (h f c' ob L F σ H1 en1 tk) fun vs H2 ⟨en2, k2, ss, t2, q2⟩ => ⟨en2, k1.trans k2, _, .cons (show Slot.ow (.fn f c' q ob) = none ∧ SOk _ _ _ _ (.fn f c' q ob) (some (.ref f)) from ⟨rfl, rfl, ?_, ?_⟩) t2, q2⟩
  · exact kp_msk k2 _ _ (mask_of (out c' _ hco) hco)
  · exact kp_msk k2 _ _ (mask_of (out f _ hf) hf)
/-- a lambda's name as an argument -/
theorem pa_fn (i : Nat) {k : List Slot → Prop} {x q : Str} {f c' : Addr} {ob : Obj} {es : List Expr} {pos : Pos} (hi : δ[i]? = some (.fn f c' q ob)) (h : Pa X ex δ es fun ss => k (.fn f c' q ob :: ss)) (hN : X.N[i]? = some x := by rfl) (hv : Vis X.env.scope x := by first | exact Or.inl rfl | exact Or.inr (Or.inl rfl) | exact Or.inr (Or.inr rfl))
    (hd : (x == ("__debug__" : Str)) = false := by decide) (hcd : (x == ("__classdict__" : Str)) = false := by decide) (hs : starEach (.Name x pos :: es) X.env = (false, eval (.Name x pos) X.env) :: starEach es X.env := by rfl) : Pa X ex δ (.Name x pos :: es) k := fun F σ H en tk => by
  obtain ⟨e1, m1, m2⟩ := en.fnAt hi
  exact wa_of (L2.pa_cons (pe_var hN hv hd hcd) pa_self hs) ⟨_, e1, wa_mono (h F σ H en tk) fun vs H2 ⟨en2, k2, ss, t2, q2⟩ => ⟨en2, k2, _, .cons (show Slot.ow (.fn f c' q ob) = none ∧ SOk _ _ _ _ (.fn f c' q ob) (some (.ref f)) from ⟨rfl, rfl, kp_msk k2 _ _ m1, kp_msk k2 _ _ m2⟩) t2, q2⟩⟩
/-- x = lambda ..: .. -/
theorem ps_lamAs (it i : Nat) {P : Addr} {n m : Nat} {x q : Str} {params : Arguments} {scope : Scope} {body : Expr} {lpos p2 pos : Pos} {S : Ct} {A : AE} (hi : δ[it]? = some (.tab P n)) (hn : 2 ≤ n) (hq : lamQ n = q)
    (hL : PE X (.Lambda params body scope lpos) (tL X P q m S)) (hN : X.N.Nodup)
    (h : ∀ f c' ob, LamFn X.prog X.w X.K X.mg X.base m f c' q ob S → A.nx (δ.set i (.fn f c' q ob)))
    (hix : X.N[i]? = some x := by rfl) (hx : Loc X.env.scope x := by first | exact Or.inl rfl | exact Or.inr rfl) (hs : swapsWith (.Lambda params body scope lpos) (some (.Name x p2)) pos.line X.env = pure false := by rfl)
    (hf : X.fn x = true ∨ X.env.scope.names.lookup x = some .local := by first | exact .inl rfl | exact .inr rfl | assumption) : Ps X δ (.Assign [.Name x p2] (.Lambda params body scope lpos) pos) A := fun F σ H en tk => by
  obtain ⟨hPB, hPn⟩ := en.sl it _ hi
  have h2 : 2 ≤ F.B.count P := by rw [hPn]; exact hn
  have hT := en.tabAt hPB h2
  have eq : lamQ (F.B.count P) = q := by rw [hPn, hq]
  rw [eq] at hT
  refine ws_of (ps_set hN hix hx hL hs hf) ⟨hT, fun f c' ob H1 L kp T1 hco hfo => ?_⟩
  obtain ⟨en1, k1, out⟩ := en.lamMade2 hPB h2 kp (by rw [eq]; exact T1)
  have sub : ∀ a, a ∈ msk F (δ.set i (.fn f c' q ob)) → a ∈ msk F δ := fun a ma => by
    rcases mem_msk.mp ma with z | z | z
    · exact mem_msk.mpr (.inl z)
    · exact mem_msk.mpr (.inr (.inl (owns_set_sub rfl a z)))
    · exact mem_msk.mpr (.inr (.inr z))
  exact ⟨_, en1.put (s := .fn f c' q ob) rfl ⟨rfl, mask_of (fun z => out c' _ hco (sub _ z)) hco, mask_of (fun z => out f _ hfo (sub _ z)) hfo⟩, h f c' ob L⟩
/-- nothing is raised: as if anything might be -/
theorem pss_nope {ss : List Stmt} {A : AE} (h : Pss X δ ss { A with ex := nope }) : Pss X δ ss A := fun F σ H en tk => h F σ H en (tk.imp fun _ _ _ _ z => z.2.2.2.elim)
end
/-- call(..) in the def that got the lambda -/
theorem act_fn {CXg : CXT} {P : Program} {w : World} {K : PySem.W.Frag} {mg : Str → Option Value} {base : Heap} {Eg : XK} {Ng : List Str} {qg : Str} {sg : Scope} {g f c' : Addr} {cdg : Value} {i m : Nat} {x q : Str} {pn : List (Addr × Obj)} {xe : Value → Shared → Prop} {W : WX} {S : Ct}
    {p1 p2 : Pos} {e1 : Expr} {es : List Expr} {ta : TA} {A : Around} {outer : List Env} {s : Shared} {H : Hp} {ob : Obj} (L : LamFn P w K mg base m f c' q ob S) (hr : Room (m + 1) (A.deeper (envOfC qg sg s.heap.objs.size g cdg)))
    (tk : L2N.Takes ((cxOf CXg P w K mg base Ng qg sg g cdg A outer s H Eg).tr pn xe) W)
    (ha : PA ((cxOf CXg P w K mg base Ng qg sg g cdg A outer s H Eg).tr pn xe) (e1 :: es) ta)
    (hN : Ng[i]? = some x) (hv : Vis sg x) (hst : starEach (e1 :: es) ((cxOf CXg P w K mg base Ng qg sg g cdg A outer s H Eg).tr pn xe).env = (false, eval e1 ((cxOf CXg P w K mg base Ng qg sg g cdg A outer s H Eg).tr pn xe).env) :: starEach es ((cxOf CXg P w K mg base Ng qg sg g cdg A outer s H Eg).tr pn xe).env := by rfl)
    (hpl : (backTo p2 (starEach es ((cxOf CXg P w K mg base Ng qg sg g cdg A outer s H Eg).tr pn xe).env)).any (·.1) = false := by rfl) (hd : (x == ("__debug__" : Str)) = false := by decide) (hcd : (x == ("__classdict__" : Str)) = false := by decide) :
    PE ((cxOf CXg P w K mg base Ng qg sg g cdg A outer s H Eg).tr pn xe) (.Call (.Name x p1) (e1 :: es) [] p2) (fun σZ HZ Q => σZ[i]? = some (some (.ref f)) ∧ HZ f = some (LamO f ob) ∧ ta σZ HZ fun vs H1 => (H1 c' = some (LamX.CodeO c' q) ∧ H1 f = some (LamO f ob)) ∧ spS K S vs H1 Q (fun cls d H' => W cls d σZ H')) := by
  refine ⟨fun pinsZ sZ σZ HZ Q IZ h => ?_⟩
  obtain ⟨hs, hz, ht⟩ := h
  refine wpAny_Call_Name_kw (thn ((pe_var (pos := p1) (i := i) hN hv hd hcd).run pinsZ sZ σZ HZ (fun v H1 => v = .ref f ∧ H1 = HZ) IZ ⟨.ref f, hs, rfl, rfl⟩) fun u s1 ⟨v, H1, I1, r1, ev, eH⟩ => ?_)
  subst ev
  subst eH
  obtain rfl : u = Value.ref f := r1
  obtain ⟨fd, hfd⟩ := L.fd
  have fnAt : ∀ {σ' : L2.St} {H' : Hp} {s' : Shared}, Inv ((cxOf CXg P w K mg base Ng qg sg g cdg A outer s H Eg).tr pn xe) pinsZ σ' H' s' → H' f = some (LamO f ob) → PySem.W.FnAt f s'.heap := fun I hq => by
    have z := (I.hok f _ hq).1
    cases ob with
    | mk cls data dict slots => cases hfd; exact ⟨_, _, _, _, z⟩
  refine PySem.W.callWith_F (first := []) (fnAt I1 hz) (thn (ha.run p2 pinsZ s1 σZ H1 _ I1 ht) fun us s2 ⟨vs, H2, I2, r, h1, q2⟩ => ⟨fnAt I2 h1.2, ?_⟩) hst hpl
  refine wpAny_call (codeAny_mono (L.run _ _ s2 H2 us vs Q _ hr h1.2 h1.1 I2.env0 r q2) fun r s' hq => ?_)
  cases r with
  | error e => exact tk e s' (L2N.XE.of_call I2 (fun _ _ _ z => z) hq)
  | ok fl =>
    cases fl with
    | ret u => exact I2.after hq
    | next => exact False.elim hq
    | brk => exact False.elim hq
    | cont => exact False.elim hq
/-- try: call(..) / except x as n: suite -/
theorem ps_tryF {P : Program} {w : World} {K : PySem.W.Frag} {mg : Str → Option Value} {base : Heap} {Ng : List Str} {qg : Str} {sg : Scope} {g f c' : Addr} {cdg : Value} {i j m : Nat} {x n y q : Str} {ob : Obj} {A0 : Around} {outer : List Env} {s : Shared} {H0 : Hp} {Eg : XK}
    {p1 p2 p3 np pos pos' : Pos} {e1 : Expr} {es : List Expr} {b0 : Stmt} {suite : List Stmt} {S : Ct} {TE : Addr} {A : AE} {δ : List Slot}
    (L : LamFn P w K mg base m f c' q ob S) (hr : Room (m + 1) (A0.deeper (envOfC qg sg s.heap.objs.size g cdg)))
    (hNd : Ng.Nodup) (hn : Ng[j]? = some n) (hln : sg.names.lookup n = some .local) (hNx : Ng[i]? = some x) (hvx : Vis sg x) (hgy : sg.names.lookup y = some .globalImplicit) (hmy : mg y = some (.ref TE)) (hdy : (y == ("__debug__" : Str)) = false) (hδ : δ[i]? = some (.fn f c' q ob))
    (hc : A.ex = nope)
    (h : ∀ (pn : List (Addr × Obj)) (xe : Value → Shared → Prop), Pa ((cxOf (L2N.CX P w) P w K mg base Ng qg sg g cdg A0 outer s H0 Eg).tr pn xe) nope δ (e1 :: es) fun ss => ∃ (kk : D → Prop) (ex : Value → Prop), S ss kk ex ∧ (∀ d, kk d → A.nx δ) ∧
      ∀ c, ex c → PySem.W.exmOne K c (.ref TE) = some true ∧ ∀ (a : Addr) (oe : Obj) (pn : List (Addr × Obj)), L2N.Zn c none oe → (∃ vs, oe.data = .fields vs) →
        Pss ((cxOf (L2N.CX P w) P w K mg base Ng qg sg g cdg A0 outer s H0 Eg).suite a ((a, oe) :: pn)) (δ.set j (.raw (.ref a))) (b0 :: suite) { nx := fun δ' => A.nx (δ'.set j .un), rt := A.rt, bk := fun δ' => A.bk (δ'.set j .un), ct := fun δ' => A.ct (δ'.set j .un) })
    (hst : starEach (e1 :: es) (cxOf (L2N.CX P w) P w K mg base Ng qg sg g cdg A0 outer s H0 Eg).env = (false, eval e1 (cxOf (L2N.CX P w) P w K mg base Ng qg sg g cdg A0 outer s H0 Eg).env) :: starEach es (cxOf (L2N.CX P w) P w K mg base Ng qg sg g cdg A0 outer s H0 Eg).env := by rfl)
    (hpl : (backTo p2 (starEach es (cxOf (L2N.CX P w) P w K mg base Ng qg sg g cdg A0 outer s H0 Eg).env)).any (·.1) = false := by rfl) (hdx : (x == ("__debug__" : Str)) = false := by decide) (hcd : (x == ("__classdict__" : Str)) = false := by decide)
    (hsw : swapsWith (.Call (.Name x p1) (e1 :: es) [] p2) none p3.line (cxOf (L2N.CX P w) P w K mg base Ng qg sg g cdg A0 outer s H0 Eg).env = pure false := by rfl) :
    Ps (cxOf (L2N.CX P w) P w K mg base Ng qg sg g cdg A0 outer s H0 Eg) δ (.Try [.Expr (.Call (.Name x p1) (e1 :: es) [] p2) p3] [.ExceptHandler (some (.Name y np)) (some n) (b0 :: suite) pos'] [] [] pos) A := fun F σ H en _ => by
  obtain ⟨en1', hcm, hfm⟩ := en.fnAt hδ
  have hcc := mask_le _ _ hcm
  have hff := mask_le _ _ hfm
  have hBc : ∀ a ∈ F.B, a ≠ c' := fun a m z => (of_mask hcm).1 (mem_msk.mpr (.inl (z ▸ m)))
  have hBf : ∀ a ∈ F.B, a ≠ f := fun a m z => (of_mask hfm).1 (mem_msk.mpr (.inl (z ▸ m)))
  generalize hX : cxOf (L2N.CX P w) P w K mg base Ng qg sg g cdg A0 outer s H0 Eg = X at *
  have hXK : X.K = K := by rw [← hX]; rfl
  refine ws_of (L2N.ps_try_as (X := X) (i := j) (c := .ref TE) (Wout := fun _ _ _ _ => False)
    (tb := fun W D σ H => σ[i]? = some (some (.ref f)) ∧ H f = some (LamO f ob) ∧ ∀ (pn : List (Addr × Obj)) (xe : Value → Shared → Prop), WA (X.tr pn xe) (e1 :: es) σ H fun vs H1 => (H1 c' = some (LamX.CodeO c' q) ∧ H1 f = some (LamO f ob)) ∧ spS K S vs H1 (fun _ H' => D.nx σ H') (fun cls d H' => W cls d σ H'))
    (ts := fun a cls d D σ H => ∀ (oe : Obj) (pn : List (Addr × Obj)), L2N.Zn cls d oe → (∃ vs, oe.data = .fields vs) → WSs (X.suite a ((a, oe) :: pn)) (b0 :: suite) D σ H)
    (by rw [← hX]; rfl) (by rw [← hX]; rfl) (by rw [← hX]; exact hNd) (by rw [← hX]; exact hn) (by rw [← hX]; exact hln) (by rw [← hX]; exact ⟨hgy, hdy, .inl hmy⟩) takesNo (fun W pn xe tk pass => ?_) (fun a oe cls d pn hz hfl => ⟨fun pins s' σ' H' D I z => z oe pn hz hfl pins s' I⟩)) ?_
  · refine ⟨fun pins s' σ' H' D I z => ?_⟩
    obtain ⟨z1, z3, z2⟩ := z
    subst hX
    exact (L2.pss_one (L2.ps_expr (act_fn L hr tk pa_self hNx hvx hst hpl hdx hcd) hsw)).run pins s' σ' H' D I ⟨z1, z3, z2 pn xe⟩
  · refine ⟨en1', hff, fun pn xe => ?_⟩
    have en : En X.K F δ σ H := en
    refine wa_mono (h pn xe F σ H en (takesNo.imp fun _ _ _ _ z => z.2.2.2)) fun vs H1 ⟨en1, k1, ss, ha, kk, ex, hS, hk, he⟩ => ⟨⟨k1 c' _ (fun m => hBc c' m rfl) hcc, k1 f _ (fun m => hBf f m rfl) hff⟩, ?_⟩
    have hZ : ∀ a ∈ owns δ ++ F.Z, a ∉ F.B := fun a m z => (List.mem_append.mp m).elim (fun m => en1.dj a m (List.mem_append_left _ z)) (fun m => en1.zm a m (en1.bm a z))
    refine ⟨F.B, owns δ ++ F.Z, ss, kk, ex, en1.glo, hZ, (by rw [← hXK]; exact ha), hS, fun d hd v H' kp g t => ⟨δ, en1.step kp g, hk d hd⟩, fun c hcx H' kp g => ?_⟩
    obtain ⟨h1, h2⟩ := he c hcx
    refine ⟨true, (by rw [hXK]; exact h1), fun _ a na => fun oe pn hz hfl => ?_, fun z => nomatch z⟩
    have e2 : En X.K F (δ.set j (.raw (.ref a))) (σ.set j (some (.ref a))) H' := (en1.step kp g).put rfl rfl
    refine wss_mono (h2 a oe pn hz hfl F _ H' e2 (takesNo.imp fun _ _ _ _ z => z.2.2.2)) ⟨?_, fun v H5 z => z, ?_, ?_⟩
    · rintro σ5 H5 ⟨δ5, e5, q5⟩
      exact ⟨_, e5.forget, q5⟩
    · rintro σ5 H5 ⟨δ5, e5, q5⟩
      exact ⟨_, e5.forget, q5⟩
    · rintro σ5 H5 ⟨δ5, e5, q5⟩
      exact ⟨_, e5.forget, q5⟩
end Tl

set_option linter.all false
set_option maxRecDepth 100000
set_option maxHeartbeats 4000000
/-! TlV: repr of a bool, isinstance with two types, lists of one's own by their places, a tuple turned round. -/
namespace Tl
open PySem PySem.Spec PyProof.Rows L2
section
variable {X : Cx} {ex : Value → Prop} {δ : List Slot} {e a b : Expr} {p pos : Pos} {k : D → Prop}
theorem cr_reprB : CallR X (.builtin "repr") (fun xs H Q => ∃ b : Bool, xs = [.bl b] ∧ Q (.str (if b then "True" else "False")) H) := by
  intro pins s σ H xs us Q I r h
  obtain ⟨b, rfl, q⟩ := h
  obtain ⟨u, rfl, rx⟩ := vals1 r
  cases rx
  exact PySem.P.repr_of_bool ⟨.str _, H, I.tok _, ⟨_, rfl⟩, q⟩
theorem pe_rpb (hm : X.mg "repr" = none) (h : Pe X ex δ e fun d => ∃ b : Bool, d = .bool b ∧ k (.str (if b then "True" else "False"))) (hg : Gl X "repr" := by rfl)
    (he : starEach [e] X.env = (false, eval e X.env) :: starEach [] X.env := by rfl) (hpl : (backTo pos (starEach [] X.env)).any (·.1) = false := by rfl) : Pe X ex δ (.Call (.Name "repr" p) [e] [] pos) k :=
  pe_bi cr_reprB hm (by decide +kernel) (pa_cons (h.mono fun d ⟨b, e1, q⟩ => pa_nil ⟨[d], rfl, fun M H vs hM t Q hq => by
    subst e1
    cases t with
    | cons t r =>
      cases r
      cases t
      exact ⟨b, rfl, hq _ _ _ (.refl H) (.str _) q⟩⟩) he) hg (by decide) (by decide) he hpl
/-- isinstance(e, (T1, T2)) -/
theorem pe_isi2 {T1 T2 : String} {g1 g2 : D → Bool} {y1 y2 : Str} {p2 p3 p4 : Pos} {n : Nat} (kt1 : ∀ d, kitB (tyN d) T1 = some (g1 d)) (kt2 : ∀ d, kitB (tyN d) T2 = some (g2 d)) (hv1 : bootBuiltins y1 = some (.type T1)) (hv2 : bootBuiltins y2 = some (.type T2)) (hmi : X.mg "isinstance" = none) (hm1 : X.mg y1 = none) (hm2 : X.mg y2 = none)
    (h : Pe X ex δ e fun d => k (.bool (g1 d || g2 d))) (hg : Gl X "isinstance" := by rfl) (hg1 : Gl X y1 := by rfl) (hg2 : Gl X y2 := by rfl)
    (hn1 : y1 ≠ "__name__" := by decide) (hd1 : (y1 == ("__debug__" : Str)) = false := by decide) (hn2 : y2 ≠ "__name__" := by decide) (hd2 : (y2 == ("__debug__" : Str)) = false := by decide)
    (he : starEach [e, .Tuple [.Name y1 p2, .Name y2 p3] n p4] X.env = (false, eval e X.env) :: starEach [.Tuple [.Name y1 p2, .Name y2 p3] n p4] X.env := by rfl)
    (he2 : starEach [.Tuple [.Name y1 p2, .Name y2 p3] n p4] X.env = (false, eval (.Tuple [.Name y1 p2, .Name y2 p3] n p4) X.env) :: starEach [] X.env := by rfl)
    (he3 : starEach [.Name y1 p2, .Name y2 p3] X.env = (false, eval (.Name y1 p2) X.env) :: starEach [.Name y2 p3] X.env := by rfl) (he4 : starEach [.Name y2 p3] X.env = (false, eval (.Name y2 p3) X.env) :: starEach [] X.env := by rfl)
    (hpl : (backTo pos (starEach [.Tuple [.Name y1 p2, .Name y2 p3] n p4] X.env)).any (·.1) = false := by rfl) : Pe X ex δ (.Call (.Name "isinstance" p) [e, .Tuple [.Name y1 p2, .Name y2 p3] n p4] [] pos) k := fun F σ H en tk =>
  we_of (pe_callB call_isiT hg hmi (by decide +kernel) pa_self (by decide) (by decide) he hpl) (wa_of (L2.pa_cons pe_self (L2.pa_cons (pe_tup (L2.pa_cons pe_self (L2.pa_cons pe_self L2.pa_nil he4) he3)) L2.pa_nil he2) he)
    (we_mono (h F σ H en tk) fun v H1 ⟨en1, k1, d, t, q⟩ => we_mono (pr_ty (k := fun v => v = .ty T1) hm1 hv1 rfl hg1 hn1 hd1 F σ H1 en1 tk) fun u H2 ⟨en2, k2, eu⟩ => we_mono (pr_ty (k := fun v => v = .ty T2) hm2 hv2 rfl hg2 hn2 hd2 F σ H2 en2 tk) fun w H3 ⟨en3, k3, ew⟩ => by
      subst eu ew
      refine ⟨by rw [sizeLine_eq]; exact (show 2 ≤ 16777216 by decide), fun p hp => ?_⟩
      refine ⟨v, p, [.ty T1, .ty T2], .type (tyN d), [.type T1, .type T2], g1 d || g2 d, rfl, upd_same, .cons (.ty T1) (.cons (.ty T2) .nil), td_ty (((t.mono (kp_msk (k2.trans k3))).mono mask_le).mono (same_upd hp)), ?_, en3.same (same_upd hp), (k1.trans (k2.trans k3)).trans (.of_same (same_upd hp)), _, .bl _, q⟩
      refine kitAny_cons (b := g1 d) (kit_ty (kt1 d)) (fun z => ?_) (fun z => by rw [z]; rfl)
      rw [z, Bool.false_or]
      cases c : g2 d with
      | true => exact kitAny_cons (b := true) (by rw [← c]; exact kit_ty (kt2 d)) (fun z => nomatch z) fun _ => rfl
      | false => exact kitAny_cons (b := false) (by rw [← c]; exact kit_ty (kt2 d)) (fun _ => kitAny_nil) fun z => nomatch z))
end
section
variable {X : Cx} {A : AE} {δ : List Slot} {x : Str}
/-- x = list(e): a list of one's own -/
theorem ps_lstO (i : Nat) {e : Expr} {p2 p3 p4 pos : Pos} (hN : X.N.Nodup) (hm : X.mg "list" = none) (h : Pe X A.ex δ e fun d => ∃ ds, (d = .list ds ∨ d = .tuple ds) ∧ ∀ q, A.nx (δ.set i (.own q ds))) (hi : X.N[i]? = some x := by rfl) (hg : Gl X "list" := by rfl)
    (he : starEach [e] X.env = (false, eval e X.env) :: starEach [] X.env := by rfl) (hpl : (backTo p4 (starEach [] X.env)).any (·.1) = false := by rfl)
    (hx : Loc X.env.scope x := by first | exact Or.inl rfl | exact Or.inr rfl) (hs : swapsWith (.Call (.Name "list" p3) [e] [] p4) (some (.Name x p2)) pos.line X.env = pure false := by rfl) (hf : X.fn x = true ∨ X.env.scope.names.lookup x = some .local := by first | exact .inl rfl | exact .inr rfl | assumption) :
    Ps X δ (.Assign [.Name x p2] (.Call (.Name "list" p3) [e] [] p4) pos) A := fun F σ H en tk =>
  ws_of (ps_set hN hi hx (pe_callTy call_list_of hg hm (by decide +kernel) (L2.pa_cons pe_self L2.pa_nil he) (by decide) (by decide) he hpl) hs hf) (we_mono (h F σ H en tk) fun v H1 ⟨en1, k1, d, t, ds, e1, q⟩ => by
    rcases e1 with e1 | e1
    · subst e1
      cases t with
      | @lst l ws _ g1 z1 t1 => exact ⟨l, ws, rfl, .inl (.of (mask_le _ _ g1)), fun p hp => ⟨_, en1.putOwn i hp z1 t1, q p⟩⟩
    · subst e1
      cases t with
      | @tup l ws _ g1 z1 t1 => exact ⟨l, ws, rfl, .inr (.of (mask_le _ _ g1)), fun p hp => ⟨_, en1.putOwn i hp z1 t1, q p⟩⟩)
theorem tds_set {H : Hp} {v : V} {d : D} (t : Td H v d) : ∀ {vs : List V} {ds : List D}, Tds H vs ds → ∀ j : Nat, Tds H (vs.set j v) (ds.set j d)
  | _, _, .nil, _ => .nil
  | _, _, .cons _ r, 0 => .cons t r
  | _, _, .cons t' r, j + 1 => .cons t' (tds_set t r j)
/-- x[i] = e, x a list of one's own -/
theorem ps_seti (i : Nat) {e ix : Expr} {q : Addr} {xs : List D} {p2 p4 pos : Pos} (hi : δ[i]? = some (.own q xs)) (h : Pe X A.ex δ e fun d => Pe X A.ex δ ix fun y => ∃ n j, y = .int n ∧ ixN xs.length n = some j ∧ A.nx (δ.set i (.own q (xs.set j d)))) (hN : X.N[i]? = some x := by rfl) (hv : Vis X.env.scope x := by first | exact Or.inl rfl | exact Or.inr (Or.inl rfl) | exact Or.inr (Or.inr rfl))
    (hd : (x == ("__debug__" : Str)) = false := by decide) (hcd : (x == ("__classdict__" : Str)) = false := by decide)
    (hs : swapsWithSole [.Subscript (.Name x p2) ix p4] e pos.line X.env = pure false := by rfl) (hw : swappedStores [.Subscript (.Name x p2) ix p4] e X.env = pure none := by rfl)
    (h1 : (assignEach [.Subscript (.Name x p2) ix p4] X.env).map (·.2) = [assign (.Subscript (.Name x p2) ix p4) X.env] := by rfl)
    (ha : ∀ v, assign (.Subscript (.Name x p2) ix p4) X.env v = (do
      let ov ← holding [v] (eval (.Name x p2) X.env)
      let iv ← holding [v, ov] (eval ix X.env)
      standAt p4
      holding [v, ov, iv] (setItem ov iv v)
      release [v, ov, iv] []) := by intro _; rfl) : Ps X δ (.Assign [.Subscript (.Name x p2) ix p4] e pos) A := fun F σ H en tk => by
  refine ws_of (ps_asg pe_self (pg_sub (pe_var hN hv hd hcd) pe_self set_list ha) hs hw h1) (we_mono (h F σ H en tk) fun v H1 ⟨en1, k1, d, t, q1⟩ => ?_)
  obtain ⟨e1, _⟩ := en1.ownAt hi
  refine ⟨_, e1, we_mono (q1 F σ H1 en1 tk) fun u H2 ⟨en2, k2, y, ty, n, j, e2, hj, nx⟩ => ?_⟩
  subst e2
  cases ty
  obtain ⟨_, ws, e3, z3, t3⟩ := en2.ownAt hi
  exact ⟨q, ws, n, j, rfl, rfl, e3, by rw [t3.length]; exact hj, _, en2.updOwn hi (by rw [List.length_set]; exact z3) (tds_set (t.mono (kp_msk k2)) t3 j), nx⟩
end
section
variable {X : Cx} {ex : Value → Prop} {δ : List Slot} {b : Expr} {p pos : Pos} {k : D → Prop} {x : Str}
/-- x[e], x a list of one's own -/
theorem pe_ixO (i : Nat) {q : Addr} {xs : List D} {p2 : Pos} (hi : δ[i]? = some (.own q xs)) (h : Pe X ex δ b fun y => ∃ n d, y = .int n ∧ atI xs n = some d ∧ k d) (hN : X.N[i]? = some x := by rfl) (hv : Vis X.env.scope x := by first | exact Or.inl rfl | exact Or.inr (Or.inl rfl) | exact Or.inr (Or.inr rfl))
    (hd : (x == ("__debug__" : Str)) = false := by decide) (hcd : (x == ("__classdict__" : Str)) = false := by decide) (hs : PlainIx b := by exact fun _ _ => rfl) : Pe X ex δ (.Subscript (.Name x p2) b pos) k := fun F σ H en tk => by
  obtain ⟨e1, _⟩ := en.ownAt hi
  refine we_of (pe_ix ix_list (pe_var hN hv hd hcd) pe_self hs) ⟨_, e1, we_mono (h F σ H en tk) fun v H1 ⟨en1, k1, d0, t, n, d, e2, he, q1⟩ => ?_⟩
  subst e2
  cases t
  obtain ⟨_, ws, e3, z3, t3⟩ := en1.ownAt hi
  have he' : (ixN xs.length n).bind (fun j => xs[j]?) = some d := he
  cases hj : ixN xs.length n with
  | none => rw [hj] at he'; cases he'
  | some j =>
    rw [hj] at he'
    obtain ⟨w, hw, tw⟩ := t3.get' he'
    refine ⟨q, ws, n, w, rfl, rfl, .of e3, ?_, en1, k1, d, tw, q1⟩
    show (ixN _ n).bind _ = _
    rw [t3.length, hj]
    exact hw
/-- len(x), x a list of one's own -/
theorem pe_lenO (i : Nat) {q : Addr} {xs : List D} {p2 : Pos} (hm : X.mg "len" = none) (hi : δ[i]? = some (.own q xs)) (h : k (.int xs.length)) (hN : X.N[i]? = some x := by rfl) (hv : Vis X.env.scope x := by first | exact Or.inl rfl | exact Or.inr (Or.inl rfl) | exact Or.inr (Or.inr rfl))
    (hd : (x == ("__debug__" : Str)) = false := by decide) (hcd : (x == ("__classdict__" : Str)) = false := by decide) (hg : Gl X "len" := by rfl)
    (he : starEach [.Name x p2] X.env = (false, eval (.Name x p2) X.env) :: starEach [] X.env := by rfl) (hpl : (backTo pos (starEach [] X.env)).any (·.1) = false := by rfl) : Pe X ex δ (.Call (.Name "len" p) [.Name x p2] [] pos) k := fun F σ H en tk => by
  obtain ⟨e1, ws, e3, z3, t3⟩ := en.ownAt hi
  refine we_of (pe_callB call_len_seq hg hm boot_len (L2.pa_cons (pe_var hN hv hd hcd) L2.pa_nil he) (by decide) (by decide) he hpl) ⟨_, e1, q, ws, rfl, .inl (.of e3), en, .refl _, _, .int _, ?_⟩
  rw [t3.length]
  exact h
end
end Tl

set_option linter.all false
set_option maxRecDepth 100000
set_option maxHeartbeats 4000000
/-! TlW: a tuple turned round. -/
namespace Tl
open PySem PySem.Spec PyProof.Rows L2
theorem adjust_back (n : Nat) : Builtin.Slice.sliceAdjust none none (-1) (n : Int) = ((n : Int) - 1, -1) := by
  simp [Builtin.Slice.sliceAdjust]
theorem places_back (n : Nat) : Builtin.Slice.slicePlaces ((n : Int) - 1) (-1) (-1) = n := by
  unfold Builtin.Slice.slicePlaces
  rw [if_neg (by decide)]
  by_cases h : (n : Int) - 1 > -1
  · rw [if_pos h, show -(-1 : Int) = 1 by decide, Int.ediv_one]; omega
  · rw [if_neg h]; omega
theorem fm_some {α β : Type} {f : α → Option β} {g : α → β} : ∀ {l : List α}, (∀ m ∈ l, f m = some (g m)) → l.filterMap f = l.map g
  | [], _ => rfl
  | x :: r, h => by
    rw [List.filterMap_cons, h x List.mem_cons_self, List.map_cons, fm_some fun m hm => h m (List.mem_cons_of_mem _ hm)]
theorem pick_back (xs : Array Value) : ((List.range xs.size).filterMap fun (m : Nat) => xs[((xs.size : Int) - 1 + (m : Int) * -1).toNat]?).toArray = xs.toList.reverse.toArray := by
  congr 1
  rw [fm_some (g := fun m => (xs.toList.reverse[m]?).getD .none) fun m hm => ?_]
  · apply List.ext_getElem
    · simp
    · intro i h1 h2
      simp only [List.getElem_map, List.getElem_range]
      rw [List.getElem?_eq_getElem h2]
      rfl
  · have hm := List.mem_range.mp hm
    have hl : m < xs.toList.reverse.length := by simp; exact hm
    have e : ((xs.size : Int) - 1 + (m : Int) * -1).toNat = xs.size - 1 - m := by omega
    rw [e, List.getElem?_eq_getElem hl, List.getElem_reverse, Array.getElem?_eq_getElem (by omega)]
    simp
section
variable {prog : Program} {w : World} {A : Around} {E : Value → Shared → Prop} {s : Shared}
theorem applied_back {sl : Addr} {vs : Value} {n : Nat} {Q : Int × Int × Nat → Shared → Prop} (hs : s.heap.IsSliceOf sl .none .none vs) (pv : IsPart vs (some (-1))) (h : Q ((n : Int) - 1, -1, n) s) : wpAny (model prog w) A (Builtin.Slice.sliceApplied (.ref sl) (pure (n : Int))) Q E s := by
  obtain ⟨ob, ho, hc, hdt⟩ := id hs
  unfold Builtin.Slice.sliceApplied Builtin.Slice.sliceFields
  refine wpAny_bind (wpAny_bind (wpAny_field ho hdt (x := Value.none) rfl ?_))
  refine wpAny_bind (wpAny_field ho hdt (x := Value.none) rfl ?_)
  refine wpAny_bind (wpAny_field ho hdt (x := vs) rfl (wpAny_pure ?_))
  refine wpAny_bind (HT.slicePart_ pv ?_)
  show wpAny _ _ (if ((-1 : Int) == 0) = true then _ else _) _ _ s
  rw [if_neg (by decide)]
  refine wpAny_bind (HT.slicePart_ (o := none) .none ?_)
  refine wpAny_bind (HT.slicePart_ (o := none) .none ?_)
  refine wpAny_bind (wpAny_pure ?_)
  show wpAny _ _ (match Builtin.Slice.sliceAdjust none none (-1) (n : Int) with | (lo, hi) => pure (lo, (-1 : Int), Builtin.Slice.slicePlaces lo hi (-1))) _ _ s
  rw [adjust_back]
  show wpAny _ _ (pure ((n : Int) - 1, (-1 : Int), Builtin.Slice.slicePlaces ((n : Int) - 1) (-1) (-1))) _ _ s
  rw [places_back]
  exact wpAny_pure h
theorem getItem_back {t sl : Addr} {its : Array Value} {vs : Value} {Q : Value → Shared → Prop} (ht : IsTup s.heap t its) (hs : s.heap.IsSliceOf sl .none .none vs) (pv : IsPart vs (some (-1))) (hz : its.size ≤ sizeLine)
    (h : Q (.ref s.heap.objs.size) { s with heap := s.heap.push { cls := .type "tuple", data := .seq its.toList.reverse.toArray } }) : wpAny (model prog w) A (getItem (.ref t) (.ref sl)) Q E s := by
  have big : sizeOk (.seq its.toList.reverse.toArray) := by
    show its.toList.reverse.toArray.size ≤ sizeLine
    simpa using hz
  obtain ⟨ob, ho, hc, hdt⟩ := id hs
  have isS : s.TypeIs (.ref sl) "slice" := ⟨ob, ho, hc⟩
  unfold getItem
  (try with_reducible refine wpAny_holding ?_)
  (first | refine wpAny_bind (wpAny_pure ?_) | skip)
  refine wpAny_bind (wpAny_sequenceKey ht.typeIs (by decide) (?_))
  refine wpAny_bind (wpAny_callSpecial?_slot ht.typeIs PyProof.Rows.slot_tuple_getitem (name := Str.ofString "__getitem__") ?_)
  refine wpAny_call_entry PyProof.Rows.slot_tuple_getitem ht.typeIs entry_tuple_getitem ?_ (args_tuple_getitem _ _)
  show wpAny _ _ (Builtin.Tuple.tupleItemsOf (.ref t) >>= _) _ _ _
  refine wpAny_bind (tupleItemsOf_ ht (?_))
  refine wpAny_bind (wpAny_typeOf isS (?_))
  rw [if_pos (show _ from by decide)]
  refine wpAny_bind (applied_back hs pv ?_)
  show wpAny _ _ (if ((((its.size : Nat) : Int) - 1) == 0 && (-1 : Int) == 1 && its.size == its.size) = true then _ else _) _ _ s
  rw [if_neg (by simp), pick_back]
  first
    | exact wpAny_bind (wpAny_newObj_type (wpAny_pure ⟨_, rfl, wpAny_pure h⟩) big) (m := Builtin.Tuple.tupleExact _)
    | exact wpAny_bind (wpAny_newObj_type (wpAny_bind (wpAny_pure (wpAny_pure ⟨_, rfl, wpAny_pure h⟩))) big) (m := Builtin.Tuple.tupleExact _)
    | exact wpAny_bind (wpAny_bind (wpAny_newObj_type (wpAny_pure (wpAny_pure ⟨_, rfl, wpAny_pure h⟩)) big) (m := Builtin.Tuple.tupleExact _))
    | exact wpAny_bind (wpAny_bind (wpAny_newObj_type (wpAny_pure ⟨_, rfl, wpAny_pure h⟩) big) (m := Builtin.Tuple.tupleExact _))
end
section
variable {X : Cx}
/-- t[::-1], t a tuple -/
def tBackT (K : PySem.W.Frag) (te : TE) : TE := fun σ H Q => te σ H fun x H1 => ∃ a xs, x = .ref a ∧ SqT K H1 a xs ∧ ∀ p, H1 p = none → Q (.ref p) (upd H1 p (.tup xs.reverse))
theorem pe_backT {e : Expr} {te : TE} {j : Nat} {p1 p2 p3 pos : Pos} (he : PE X e te) : PE X (.Subscript e (.Slice none none (some (.UnaryOp .USub (.Constant (.int 1) j p1) p2)) p3) pos) (tBackT X.K te) := ⟨fun pins s σ H Q I h => by
  have minus : PO X (some (.UnaryOp .USub (.Constant (.int 1) j p1) p2)) (tPart (tUn (rU fun i => .int (-i)) (tC (.int 1)))) := po_some (L2.pe_un un_neg L2.pe_int)
  refine Subscript_ (thn (he.run pins s σ H _ I h) fun v s1 ⟨x, H1, I1, r1, a, xs, ex, hx, q⟩ => ?_)
  subst ex
  cases r1
  refine wpAny_Slice (thn (po_none.run pins s1 σ H1 (fun o G => o = none ∧ G = H1) I1 ⟨rfl, rfl⟩) fun vl s2 ⟨l, H2, I2, pl, el, e2⟩ => ?_)
  subst el e2
  refine thn (po_none.run pins s2 σ H2 (fun o G => o = none ∧ G = H2) I2 ⟨rfl, rfl⟩) fun vu s3 ⟨u, H3, I3, pu, eu, e3⟩ => ?_
  subst eu e3
  refine thn (minus.run pins s3 σ H3 (fun o G => o = some (-1) ∧ G = H3) I3 ⟨1, rfl, -1, rfl, rfl, rfl⟩) fun vs s4 ⟨o, H4, I4, pv, eo, e4⟩ => ?_
  subst eo e4
  have I5 : Inv X pins σ H4 { s4 with heap := s4.heap.push { cls := .type "slice", data := .fields #[vl, vu, vs] } } := I4.kept fun _ _ q => Heap.get?_push_of_some _ q
  obtain ⟨its, r, ht, hz⟩ := I5.tuple hx
  have hlen := r.length
  cases pl
  cases pu
  show wpAny (model X.prog X.w) X.A (subscriptTail e _ (.ref a) (.ref s4.heap.objs.size)) (EP X pins σ Q) X.xe _
  refine tail_any (ops := [.ref a, .ref s4.heap.objs.size]) ht.typeIs PyProof.Rows.slot_tuple_getitem.lookup ?_ (by with_unfolding_all rfl)
  refine getItem_back ht (Heap.IsSliceOf.new _ _ _ vs) pv (by rw [List.size_toArray, ← hlen]; exact hz) ?_
  refine ⟨.ref _, _, I5.laid (o := .tup xs.reverse) (fun _ _ q => Heap.get?_push_of_some _ q) (Nat.le_refl _) ?_, rfl, q _ (I5.hok.fresh (Nat.le_refl _))⟩
  exact ⟨by rw [List.length_reverse]; exact hz, _, r.reverse, IsTup.new _ _⟩⟩
theorem pe_revT {ex : Value → Prop} {δ : List Slot} {e : Expr} {pos : Pos} {k : D → Prop} {n : Nat} {p1 p2 p3 : Pos} (h : Pe X ex δ e fun d => ∃ ds, d = .tuple ds ∧ k (.tuple ds.reverse)) : Pe X ex δ (.Subscript e (.Slice none none (some (.UnaryOp .USub (.Constant (.int 1) n p1) p2)) p3) pos) k := fun F σ H en tk =>
  we_of (pe_backT pe_self) (we_mono (h F σ H en tk) fun v H1 ⟨en1, k1, d, t, ds, e1, q⟩ => by
    subst e1
    cases t with
    | @tup a ws _ e2 z2 t =>
      exact ⟨a, ws, rfl, .of (mask_le _ _ e2), fun p hp => ⟨en1.same (same_upd hp), k1.trans (.of_same (same_upd hp)), _, .tup (mask_new en1.tracked hp) (by rw [List.length_reverse]; exact z2) ((t.mono (same_mask (same_upd hp))).rev), q⟩⟩)
end
end Tl

set_option linter.all false
set_option maxRecDepth 100000
set_option maxHeartbeats 4000000
/-! TlZ: set(xs), sorted(set(xs)), xs a list of ints. -/
namespace Tl
open PySem PySem.Spec PyProof.Rows L2
/-- the set as it is made -/
abbrev bare (w : World) : Obj := { cls := .type "set", dict := none, data := .set #[] 0 (.fresh 0 0 (!w.params.followText "set-order")) }
section
variable {P : Program} {w : World} {A : Around} {E : Value → Shared → Prop} {s : Shared}
theorem call_set_lst {l : Addr} {its : Array Value} (ns : List Int) {Q : Value → Shared → Prop} (hA : A.handled = none) (hl : s.heap.IsList l its) (hi : IntsAre its.toList ns) (hb : ns.length + 1 < scanBound)
    (h : ∀ (h' : Heap) (tk c : Nat), SetR w h' s.heap.objs.size (fun j => decide (j ∈ ns)) c → c ≤ ns.length → (∀ b o, s.heap.get? b = some o → h'.get? b = some o) → Q (.ref s.heap.objs.size) { s with heap := h', toks := tk }) : wpAny (model P w) A (call (.type "set") [.ref l]) Q E s := by
  have size : its.size = ns.length := by rw [← Array.length_toList, hi.length]
  obtain ⟨c, tl, m0⟩ := F.called_set.mro
  have m1 := F.called_set.made
  have m2 := F.called_set.sub
  refine wpAny_call (codeAny_of_tree ?_)
  show wpAny _ _ (callAny (.type "set") _) _ _ _
  refine wpAny_pure ⟨Code.quiet_builtin _ (by decide +kernel), codeAny_builtin F.entry_type_call ?_⟩
  rw [Around.under_plain (weight_type_call_type "set" [.ref l] []) rfl]
  have m3 := F.called_set.notType
  have m4 := F.called_set.canCreate
  have m5 := F.typeCall_set_1 (.ref l)
  repeat any_goals first | assumption | wp_step
  refine codeAny_mono (code_set_led1 (.ref l) (E := E) (Q₁ := fun ob s1 => ob = .ref s.heap.objs.size ∧ s1 = { s with heap := s.heap.push (bare w) }) ⟨rfl, rfl⟩) fun r s1 hr => ?_
  cases r with
  | error e => exact hr
  | ok fl =>
    cases fl with
    | ret ob =>
      obtain ⟨rfl, rfl⟩ := hr
      have at0 : (s.heap.push (bare w)).get? s.heap.objs.size = some (bare w) := Heap.get?_push_size _ rfl
      have ty0 : Shared.TypeIs { s with heap := s.heap.push (bare w) } (.ref s.heap.objs.size) "set" := ⟨_, at0, rfl⟩
      have m6 := F.called_set.init.lookup
      have m7 := F.called_set.init.bind (.ref s.heap.objs.size)
      repeat any_goals first | assumption | wp_step
      refine codeAny_mono (codeAny_call_builtin (R := wants (fun r s2 => r = .none ∧ ∃ h' tk c, s2 = { s with heap := h', toks := tk } ∧ SetR w h' s.heap.objs.size (fun j => decide (j ∈ ns)) c ∧ c ≤ ns.length ∧ (∀ b o, s.heap.get? b = some o → h'.get? b = some o)) E) F.called_set.init.plain F.entry_set_init (check_set_init_1 ty0 ?_)) fun r2 s2 hr2 => ?_
      · obtain ⟨⟨oc, od, odt, osl⟩, ho, hc, n0, hd⟩ := hl
        simp only at hc hd
        subst hc
        subst hd
        have at1 : (s.heap.push (bare w)).get? l = some { cls := .type "list", dict := od, data := .seq its n0, slots := osl } := Heap.get?_push_of_some _ ho
        have n1 := F.sub_list_set
        have n2 := F.sub_list_frozenset
        have n3 : (Value.type "list" == Value.type "dict") = false := by decide
        have l1 : (s.heap.push (bare w)).IsList l its := ⟨_, at1, rfl, n0, rfl⟩
        unfold Builtin.«set.__init__» noKeywords Builtin.Frozenset.updateFrom
        generalize hPI : pyIter = PI
        wp_walk
        subst hPI
        refine wpAny_pyIter_list l1 (wpAny_bind (wpAny_runValue ?_))
        have lt0 : l < s.heap.objs.size := Heap.lt_size ho
        have calm3 : A.in1.in1.in1.handled = none := by simp [hA]
        have far : l ≠ (s.heap.push (bare w)).objs.size := by rw [Heap.size_push]; exact Nat.ne_of_lt (Nat.lt_trans lt0 (Nat.lt_succ_self _))
        have out0 : s.heap.objs.size ∉ [(s.heap.push (bare w)).objs.size, l] := by
          rw [Heap.size_push]
          intro z
          rcases List.mem_cons.mp z with z | z
          · exact absurd z (Nat.ne_of_lt (Nat.lt_succ_self _))
          · exact absurd (List.mem_singleton.mp z) (Ne.symm (Nat.ne_of_lt lt0))
        have vals : ∀ (i : Nat) (v : Value), its[i]? = some v → ∃ k t, ns[i]? = some k ∧ v = .int k t := fun i v hv => by
          have hi2 : i < ns.length := by rw [← size]; exact (Array.getElem?_eq_some_iff.mp hv).1
          obtain ⟨t, e⟩ := PyProof.Rows.IntsAre.int_at hi i v (by rw [Array.getElem?_toList]; exact hv)
          exact ⟨ns[i], t, List.getElem?_eq_getElem hi2, by rw [e, List.getD_eq_getElem?_getD, List.getElem?_eq_getElem hi2] <;> rfl⟩
        refine set_update_ints ((Walks.list calm3 _ l far its).toS) s.heap.objs.size out0 ns size hb vals (its.size - 0) 0 _ (by omega) (Nat.zero_le _) ⟨⟨_, Heap.get?_push_size _ rfl, rfl, rfl⟩, l1.push _⟩ ?start ?fin
        case start => exact ⟨0, Nat.le_refl 0, setR_new_at (Heap.get?_push_of_some _ at0)⟩
        case fin =>
          intro s9 c9 mv hc9 hS9
          obtain ⟨h9, g9, d9, t9, o9⟩ := s9
          obtain rfl : g9 = s.gens := mv.gens
          obtain rfl : d9 = s.drawn := mv.drawn
          obtain rfl : o9 = s.os := mv.os
          show wpAny _ _ _ _ _ _
          refine wpAny_pure ?_
          show wpAny _ _ (ret Value.none) _ _ _
          rw [size] at hc9
          refine wpAny_pure ⟨rfl, h9, t9, c9, rfl, hS9, hc9, fun b o e => ?_⟩
          have b0 : b < s.heap.objs.size := Heap.lt_size e
          refine mv.heap b o (fun z => ?_) (Heap.get?_push_of_some _ (Heap.get?_push_of_some _ e))
          rcases List.mem_cons.mp z with z | z
          · exact absurd z (Nat.ne_of_lt b0)
          · have y := List.mem_singleton.mp z
            rw [Heap.size_push] at y
            exact absurd y (Nat.ne_of_lt (Nat.lt_trans b0 (Nat.lt_succ_self _)))
      · cases r2 with
        | error e => exact hr2
        | ok fl2 =>
          cases fl2 with
          | ret r =>
            obtain ⟨rfl, h9, t9, c9, rfl, hS9, hc9, hk9⟩ := hr2
            repeat any_goals first | assumption | wp_step
            exact h _ _ _ hS9 hc9 hk9
          | _ => exact hr2.elim
    | _ => exact hr.elim
end
section
variable {X : Cx} {ex : Value → Prop} {δ : List Slot} {e : Expr} {p pos : Pos} {k : D → Prop}
/-- set(xs), xs a list of ints -/
def rSetL2 (K : PySem.W.Frag) (w : World) : List V → Hp → VK → Prop := fun vs H Q => ∃ (l : Addr) (ns : List Int), vs = [.ref l] ∧ SqL K H l (ns.map V.int) ∧ ns.length < 64 ∧ ∀ a c, H a = none → c ≤ ns.length → Q (.ref a) (upd H a (SetO w a (fun j => decide (j ∈ ns)) c))
theorem cr_setL2 (hc : X.calm = true) : CallR X (.type "set") (rSetL2 X.K X.w) := by
  intro pins s σ H vs us Q I r h
  obtain ⟨l, ns, rfl, hl, h64, q⟩ := h
  rw [Vals.ref1 r]
  obtain ⟨its, rv, pl, hz⟩ := I.list hl
  have hn : H s.heap.objs.size = none := I.hok.fresh (Nat.le_refl _)
  refine call_set_lst (P := X.prog) (w := X.w) ns (I.ok.hd hc) pl.isList (by simpa using rv.ints) (by unfold scanBound; omega) fun h' tk c R hcl k => ?_
  exact ⟨.ref s.heap.objs.size, _, I.laid (t' := tk) k (Nat.le_refl _) (setO_new R), rfl, q _ c hn hcl⟩
/-- sorted(set(xs)), xs a list of ints -/
theorem pe_srtSet {p2 q0 : Pos} (hc : X.calm = true) (hm : X.mg "sorted" = none) (hm2 : X.mg "set" = none) (h : Pe X ex δ e fun d => ∃ ns : List Int, d = .list (ns.map .int) ∧ ns.length < 64 ∧ ∀ ms : List Int, ms.Pairwise (· < ·) → (∀ x, x ∈ ms ↔ x ∈ ns) → ms.length ≤ ns.length → k (.list (ms.map .int)))
    (hg : Gl X "sorted" := by rfl) (hg2 : Gl X "set" := by rfl) (he2 : starEach [e] X.env = (false, eval e X.env) :: starEach [] X.env := by rfl) (hpl2 : (backTo q0 (starEach [] X.env)).any (·.1) = false := by rfl)
    (he : starEach [.Call (.Name "set" p2) [e] [] q0] X.env = (false, eval (.Call (.Name "set" p2) [e] [] q0) X.env) :: starEach [] X.env := by rfl) (hpl : (backTo pos (starEach [] X.env)).any (·.1) = false := by rfl) :
    Pe X ex δ (.Call (.Name "sorted" p) [.Call (.Name "set" p2) [e] [] q0] [] pos) k := fun F σ H en tk =>
  we_of (pe_callB (cr_sortedSet hc) hg hm (by decide +kernel) (L2.pa_cons (pe_callTy (cr_setL2 hc) hg2 hm2 (by decide +kernel) (L2.pa_cons pe_self L2.pa_nil he2) (by decide) (by decide) he2 hpl2) L2.pa_nil he) (by decide) (by decide) he hpl)
    (we_mono (h F σ H en tk) fun v H1 ⟨en1, k1, d, t, ns, e1, h64, q⟩ => by
      subst e1
      obtain ⟨a, rfl, ha⟩ := ints_td t
      refine ⟨a, ns, rfl, .of (mask_le _ _ ha), h64, fun b c hb hcl => ⟨b, _, c, rfl, upd_same, by omega, fun ms b2 hs hmem hlen hb2 => ?_⟩⟩
      have e2 := en1.same (same_upd (o := SetO X.w b (fun j => decide (j ∈ ns)) c) hb)
      have e3 := e2.same (same_upd (o := .lst (ms.map V.int)) hb2)
      refine ⟨e3, (k1.trans (.of_same (same_upd hb))).trans (.of_same (same_upd hb2)), .list (ms.map .int), .lst (mask_new e2.tracked hb2) (by rw [List.length_map, hlen, sizeLine_eq]; omega) (Tds.of_ints ms), q ms hs (fun x => ?_) (by omega)⟩
      rw [hmem x, decide_eq_true_eq])
end
end Tl

set_option linter.all false
set_option maxRecDepth 100000
set_option maxHeartbeats 4000000
/-! TlY: a list that a comprehension makes is new. -/
namespace Tl
open PySem PySem.Spec PyProof.Rows L2
section
variable {X : Cx} {ex : Value → Prop} {δ : List Slot} {k : D → Prop}
theorem lc_bodyN {elt : Expr} {ifs : List Expr} {scope : Scope} {vs : List Nat} (pt : Pat) (hpt : ∀ i ∈ pt.is, i ∈ vs) {F : Fm} {σ : L2.St} {H H1 : Hp} {J : It} {ds : List D} (en1 : En X.K F δ σ H1) (k1 : Kp F.B H H1) (yl : Ylds F.B (owns δ ++ F.Z) H1 J ds) (b : LcB X δ pt elt ifs scope vs k ds) (hHL : ∀ L, H1 L = none → H L = none)
    {Q : VK} (hQ : ∀ v H' d, En X.K F δ σ H' → Kp F.B H H' → Td (mask (msk F δ) H') v d → k d → (∃ L acc ds', v = .ref L ∧ d = .list ds' ∧ H L = none ∧ H' L = some (.lst acc) ∧ acc.length ≤ sizeLine ∧ Tds (mask (msk F δ) H') acc ds' ∧ Glo F.B (owns δ ++ (L :: F.Z)) H') → Q v H') :
    tLc (fun _ _ R => R J H1) (pt.g X.K) (fun σ H Q => ∀ (s : Shared) (H' : Hp) (C : Addr) (cl : List (Str × Addr)) (fp : List Addr), WTs (X.blk s H' scope (compEnvC scope cl C X.env) fp) ifs σ H Q)
      (fun σ H Q => ∀ (s : Shared) (H' : Hp) (C : Addr) (cl : List (Str × Addr)) (fp : List Addr), WE (X.blk s H' scope (compEnvC scope cl C X.env) fp) elt σ H Q) vs σ H Q := by
  obtain ⟨hz, I, I0, step, fin⟩ := b
  intro L hL
  have nB : L ∉ F.B := fun z => en1.fresh hL (mem_msk.mpr (.inl z))
  refine lc_it (n := ds.length) (g := pt.g X.K) (tt := fun σ H Q => ∀ (s : Shared) (H' : Hp) (C : Addr) (cl : List (Str × Addr)) (fp : List Addr), WTs (X.blk s H' scope (compEnvC scope cl C X.env) fp) ifs σ H Q)
    (te := fun σ H Q => ∀ (s : Shared) (H' : Hp) (C : Addr) (cl : List (Str × Addr)) (fp : List Addr), WE (X.blk s H' scope (compEnvC scope cl C X.env) fp) elt σ H Q) (vs := vs) (σ := σ) (Pv := fun j H => Kp F.B H1 H ∧ Glo F.B (owns δ ++ (L :: F.Z)) H ∧ ∃ acc ds', H L = some (.lst acc) ∧ acc.length ≤ j ∧ Tds (mask (msk (F.hid δ H1 L) δ) H) acc ds' ∧ I j ds') yl
    ⟨.of_same (same_upd hL), ?_, [], [], upd_same, Nat.le_refl _, .nil, I0⟩ (fun _ _ _ h => h.1) ?_ ?_
  · refine ⟨fun a m => ?_, fun b m => ?_, fun a m => ?_⟩
    · rcases List.mem_append.mp m with m | m
      · rw [upd_ne (fun z => nB (by rw [← z]; exact m))]
        exact en1.nc a (mem_msk.mpr (.inl m))
      · rcases List.mem_append.mp m with m | m
        · rw [upd_ne (fun z => en1.fresh hL (mem_msk.mpr (.inr (.inl (by rw [← z]; exact m)))))]
          exact en1.nc a (mem_msk.mpr (.inr (.inl m)))
        · rcases List.mem_cons.mp m with m | m
          · rw [m, upd_same]
            exact nc_lst
          · rw [upd_ne (fun z => en1.fresh hL (mem_msk.mpr (.inr (.inr (by rw [← z]; exact m)))))]
            exact en1.nc a (mem_msk.mpr (.inr (.inr m)))
    · refine (en1.glo.bags b m).kp (upd_ne fun z => nB (by rw [← z]; exact m)) fun a o e => ?_
      obtain ⟨n, e⟩ := of_mask e
      have ne : a ≠ L := fun z => by rw [z, hL] at e; cases e
      refine mask_of (fun m => ?_) (by rw [upd_ne ne]; exact e)
      rcases List.mem_append.mp m with m | m
      · exact n (List.mem_append_left _ m)
      · rcases List.mem_append.mp m with m | m
        · exact n (List.mem_append_right _ (List.mem_append_left _ m))
        · rcases List.mem_cons.mp m with m | m
          · exact ne m
          · exact n (List.mem_append_right _ (List.mem_append_right _ m))
    · rcases List.mem_append.mp m with m | m
      · obtain ⟨xs, z⟩ := en1.glo.zl a (List.mem_append_left _ m)
        exact ⟨xs, by rw [upd_ne (ne_of_none z hL)]; exact z⟩
      · rcases List.mem_cons.mp m with m | m
        · exact ⟨_, by rw [m, upd_same]⟩
        · obtain ⟨xs, z⟩ := en1.glo.zl a (List.mem_append_right _ m)
          exact ⟨xs, by rw [upd_ne (ne_of_none z hL)]; exact z⟩
  · rintro j v H H' hj ⟨kp, g, acc, ds', eL, hl, tacc, hI⟩ ⟨sm, ty⟩
    have hd : ds[j]? = some ds[j] := List.getElem?_eq_getElem hj
    obtain ⟨δ', kt, hb, how, bt, bf, be⟩ := step j ds[j] ds' hd hI
    have e0 : En X.K (F.hid δ H1 L) δ σ H' := (en1.hid hL kp g).same sm
    have e1 := e0.wipe vs
    have td : Td (mask (msk (F.hid δ H1 L) (wipeS δ vs)) H') v ds[j] := by
      refine ty _ (fun a m => ?_) (fun a m => ?_) _ hd
      · exact ((en1.hid hL kp g).wipe vs).tracked a m
      · show a ∈ msk F δ ∨ H1 a = none
        have sub : a ∈ owns (wipeS δ vs) → a ∈ owns δ := by
          intro m
          have gen : ∀ vs : List Nat, a ∈ owns (wipeS δ vs) → a ∈ owns δ := by
            intro vs
            induction vs with
            | nil => exact id
            | cons w ws ih => exact fun m => ih (owns_set_sub rfl a m)
          exact gen _ m
        rcases mem_hid.mp m with z | z | z | z
        · exact .inl (mem_msk.mpr (.inl z))
        · exact .inl (mem_msk.mpr (.inr (.inl (sub z))))
        · exact .inr (by rw [z]; exact hL)
        · exact .inl (mem_msk.mpr (.inr (.inr z)))
    refine pt.ok e1 td hb fun σ2 h1 h2 e2 => ⟨wipe_eq h1 h2 hpt, ?_⟩
    intro s0 H0 C cl fp
    refine wts_mono (bt s0 H0 C cl fp _ σ2 H' e2 (takesN takesNo)) fun b H3 ⟨e3, k3, q3⟩ => ?_
    have kHL : ∀ {H4 : Hp}, Kp F.B H' H4 → H4 L = some (.lst acc) := fun k => k L _ nB (sm _ _ eL)
    have g_of : ∀ {H4 : Hp}, En X.K (F.hid δ H1 L) δ' σ2 H4 → Glo F.B (owns δ ++ (L :: F.Z)) H4 := fun e => by
      have z := e.glo
      rw [how] at z
      exact z
    cases b with
    | false => exact ⟨kp.trans ((Kp.of_same sm).trans k3), g_of e3, acc, ds', kHL k3, Nat.le_succ_of_le hl, (tacc.mono (same_mask sm)).mono (kp_msk (δ := δ) (F := F.hid δ H1 L) k3), bf q3⟩
    | true =>
      intro s4 H5 C4 cl4 fp4
      refine we_mono (be q3 s4 H5 C4 cl4 fp4 _ σ2 H3 e3 (takesN takesNo)) fun y H4 h4 => ?_
      · obtain ⟨e4, k4, d, t4, q4⟩ := h4
        have tacc4 := ((tacc.mono (same_mask sm)).mono (kp_msk (δ := δ) (F := F.hid δ H1 L) k3)).mono (kp_msk (δ := δ) (F := F.hid δ H1 L) k4)
        have t4' : Td (mask (msk (F.hid δ H1 L) δ) H4) y d := t4.mono (mask_sub fun a m => by
          rcases mem_hid.mp m with z | z | z | z
          · exact mem_hid.mpr (.inl z)
          · exact mem_hid.mpr (.inr (.inl (by rw [how]; exact z)))
          · exact mem_hid.mpr (.inr (.inr (.inl z)))
          · exact mem_hid.mpr (.inr (.inr (.inr z))))
        refine ⟨acc, kHL (k3.trans k4), Nat.lt_of_lt_of_le (Nat.lt_of_le_of_lt hl hj) (by rw [sizeLine_eq]; exact hz), ?_⟩
        have Lm : L ∈ msk (F.hid δ H1 L) δ := mem_hid.mpr (.inr (.inr (.inl rfl)))
        have um : ∀ a o, mask (msk (F.hid δ H1 L) δ) H4 a = some o → mask (msk (F.hid δ H1 L) δ) (upd H4 L (.lst (acc ++ [y]))) a = some o := fun a o e => by
          obtain ⟨n, e⟩ := of_mask e
          exact mask_of n (by rw [upd_ne (fun z => n (by rw [z]; exact Lm))]; exact e)
        refine ⟨fun a o n e => ?_, ⟨fun a m => ?_, fun b m => ?_, fun a m => ?_⟩, acc ++ [y], ds' ++ [d], upd_same, ?_, Tds.app (tacc4.mono um) (.cons (t4'.mono um) .nil), q4⟩
        · rw [upd_ne (fun z => by rw [z, hL] at e; cases e)]
          exact (kp.trans ((Kp.of_same sm).trans (k3.trans k4))) a o n e
        · by_cases z : a = L
          · rw [z, upd_same]
            exact nc_lst
          · rw [upd_ne z]
            exact (g_of e4).there a m
        · refine ((g_of e4).bags b m).kp (upd_ne fun z => nB (by rw [← z]; exact m)) um
        · by_cases z : a = L
          · exact ⟨_, by rw [z, upd_same]⟩
          · obtain ⟨xs, q⟩ := (g_of e4).zl a m
            exact ⟨xs, by rw [upd_ne z]; exact q⟩
        · rw [List.length_append]
          exact Nat.succ_le_succ hl
  · rintro H' ⟨kp, g, acc, ds', eL, hl, tacc, hI⟩
    have g' : Glo F.B (owns δ ++ F.Z) H' := g.sub fun a m => (List.mem_append.mp m).elim (fun m => List.mem_append_left _ m) fun m => List.mem_append_right _ (List.mem_cons_of_mem _ m)
    have tC : Tds (mask (msk F δ) H') acc ds' := tacc.mono (mask_sub fun a m => by
      rcases mem_msk.mp m with z | z | z
      · exact mem_hid.mpr (.inl z)
      · exact mem_hid.mpr (.inr (.inl z))
      · exact mem_hid.mpr (.inr (.inr (.inr z))))
    have zC : acc.length ≤ sizeLine := Nat.le_trans hl (by rw [sizeLine_eq]; exact hz)
    exact hQ _ _ _ (en1.step kp g') (k1.trans kp) (.lst (mask_of (fun m => en1.fresh hL m) eL) zC tC) (fin _ hI (by rw [← tacc.length]; exact hl)) ⟨L, acc, ds', rfl, rfl, hHL L hL, eL, zC, tC, g⟩
theorem lc_readN {elt tg iter : Expr} {ifs : List Expr} {scope : Scope} {vs : List Nat} (pt : Pat) (hpt : ∀ i ∈ pt.is, i ∈ vs) (h : LcH X ex δ pt elt tg iter ifs scope vs k) {F : Fm} {σ : L2.St} {H : Hp} (en : En X.K F δ σ H) (tk : L2N.Takes X (Wx F ex))
    {Q : VK} (hQ : ∀ v H' d, En X.K F δ σ H' → Kp F.B H H' → Td (mask (msk F δ) H') v d → k d → (∃ L acc ds', v = .ref L ∧ d = .list ds' ∧ H L = none ∧ H' L = some (.lst acc) ∧ acc.length ≤ sizeLine ∧ Tds (mask (msk F δ) H') acc ds' ∧ Glo F.B (owns δ ++ (L :: F.Z)) H') → Q v H') :
    tLc (WI X tg iter) (pt.g X.K) (fun σ H Q => ∀ (s : Shared) (H' : Hp) (C : Addr) (cl : List (Str × Addr)) (fp : List Addr), WTs (X.blk s H' scope (compEnvC scope cl C X.env) fp) ifs σ H Q)
      (fun σ H Q => ∀ (s : Shared) (H' : Hp) (C : Addr) (cl : List (Str × Addr)) (fp : List Addr), WE (X.blk s H' scope (compEnvC scope cl C X.env) fp) elt σ H Q) vs σ H Q :=
  wi_mono (h F σ H en tk) fun J H1 ⟨en1, k1, ds, yl, b⟩ => lc_bodyN pt hpt en1 k1 yl b (fun L hL => by
    cases q : H L with
    | none => rfl
    | some o =>
      by_cases z : L ∈ F.B
      · exact absurd hL (en1.tracked L (mem_msk.mpr (.inl z)))
      · rw [k1 L o z q] at hL; cases hL) hQ/-- what an expression gives that makes a list of ints: the list is new -/
def NewI (X : Cx) (F : Fm) (δ : List Slot) (σ : L2.St) (H : Hp) (k : List Int → Prop) : VK := fun v H' => En X.K F δ σ H' ∧ Kp F.B H H' ∧ ∃ a ns, v = .ref a ∧ H a = none ∧ H' a = some (.lst (ns.map V.int)) ∧ (ns.map V.int).length ≤ sizeLine ∧ Glo F.B (owns δ ++ (a :: F.Z)) H' ∧ k ns
def PeN (X : Cx) (ex : Value → Prop) (δ : List Slot) (e : Expr) (k : List Int → Prop) : Prop := ∀ (F : Fm) (σ : L2.St) (H : Hp), En X.K F δ σ H → L2N.Takes X (Wx F ex) → WE X e σ H (NewI X F δ σ H k)
theorem tds_ints {H : Hp} : ∀ {vs : List V} {ns : List Int}, Tds H vs (ns.map PyData.int) → vs = ns.map V.int
  | _, [], .nil => rfl
  | _, n :: r, .cons t q => by
    cases t
    rw [tds_ints q]
    rfl
theorem pe_lcN {elt tg iter : Expr} {ifs : List Expr} {scope : Scope} {own : List (Str × Nat)} {pos : Pos} {kn : List Int → Prop} (pt : Pat) (hc : X.calm = true) (hN : X.N.Nodup) (ok : BlkOk X.N X.env.scope scope own) (hpt : ∀ i ∈ pt.is, i ∈ own.map (·.2))
    (hg : ∀ (s : Shared) (H : Hp) (C : Addr) (cl : List (Str × Addr)) (fp : List Addr), PG (X.blk s H scope (compEnvC scope cl C X.env) fp) tg (pt.g X.K))
    (h : LcH X ex δ pt elt tg iter ifs scope (own.map (·.2)) fun d => ∃ ns : List Int, d = .list (ns.map .int) ∧ kn ns)
    (hs : ∀ x, foldedSetIterable iter X.env x = pure x := by intro _; rfl) : PeN X ex δ (.ListComp elt [⟨tg, iter, ifs, 0⟩] scope pos) kn := fun F σ H en tk =>
  we_of (L2.pe_lc (te := (fun σ H Q => ∀ (s : Shared) (H' : Hp) (C : Addr) (cl : List (Str × Addr)) (fp : List Addr), WE (X.blk s H' scope (compEnvC scope cl C X.env) fp) elt σ H Q))
    (tt := (fun σ H Q => ∀ (s : Shared) (H' : Hp) (C : Addr) (cl : List (Str × Addr)) (fp : List Addr), WTs (X.blk s H' scope (compEnvC scope cl C X.env) fp) ifs σ H Q))
    hc hN pi_self ok hg (fun s H C cl fp => ⟨fun pins s' σ' H' Q I h => h s H C cl fp pins s' I⟩) (fun s H C cl fp => ⟨fun pins s' σ' H' Q I h => h s H C cl fp pins s' I⟩) hs) (lc_readN pt hpt h en tk fun v H' d e1 e2 e3 ⟨ns, e4, e5⟩ ⟨L, acc, ds', q1, q2, q3, q4, q5, q6, q7⟩ => by
      subst q2
      have e4 := PyData.list.inj e4
      subst e4
      have e6 := tds_ints q6
      subst e6
      exact ⟨e1, e2, L, ns, q1, q3, q4, q5, q7, e5⟩)
end
end Tl

set_option linter.all false
set_option maxRecDepth 100000
set_option maxHeartbeats 4000000
/-! TlX: a def that returns a new list of ints. -/
namespace Tl
open PySem PySem.Spec PyProof.Rows L2
abbrev CtN := List Slot → (List Int → Prop) → (Value → Prop) → Prop
def spN (K : PySem.W.Frag) (S : CtN) : Sp := fun vs H Q E => ∃ (B Z : List Addr) (ss : List Slot) (k : List Int → Prop) (ex : Value → Prop), Glo B Z H ∧ (∀ a ∈ Z, a ∉ B) ∧ SArgs K B (B ++ Z) H ss vs ∧ S ss k ex ∧
  (∀ ns, k ns → ∀ a H', H a = none → H' a = some (.lst (ns.map V.int)) → (ns.map V.int).length ≤ sizeLine → Kp B H H' → Glo B (a :: Z) H' → Q (.ref a) H') ∧ (∀ c, ex c → ∀ H', Kp B H H' → Glo B Z H' → E c none H')
structure OkN (P : Program) (w : World) (K : PySem.W.Frag) (mg : Str → Option Value) (base : Heap) (n : Nat) (x : Str) (ps : List Str) (S : CtN) : Prop where
  ex : ∃ (f : Addr) (fd : FuncData), FnOk P w K mg base (L2N.CX P w) n f fd ps (spN K S) ∧ mg x = some (.ref f) ∧ PySem.W.keepIn K (.ref f) = true ∧ L2.Binds K fd ps []
theorem En.newAt {K : PySem.W.Frag} {F : Fm} {δ : List Slot} {σ : L2.St} {H H1 : Hp} (en1 : En K F δ σ H1) (k1 : Kp F.B H H1) {a : Addr} (h : H1 a = none) : H a = none := by
  cases q : H a with
  | none => rfl
  | some o =>
    by_cases z : a ∈ F.B
    · exact absurd h (en1.tracked a (mem_msk.mpr (.inl z)))
    · rw [k1 a o z q] at h; cases h
section
variable {X : Cx} {ex : Value → Prop} {δ : List Slot} {e : Expr} {es : List Expr} {p pos : Pos} {x : Str} {k : List Int → Prop}
theorem pe_callN {S : CtN} {m n : Nat} {ps : List Str} (G : OkN X.prog X.w X.K X.mg X.base n x ps S) (hr : Room m X.A) (hnm : n ≤ m)
    (h : Pa X ex δ (e :: es) fun ss => S ss k ex) (hg : Gl X x := by rfl) (hdb : (x == ("__debug__" : Str)) = false := by decide) (he : starEach (e :: es) X.env = (false, eval e X.env) :: starEach es X.env := by rfl) (hpl : (backTo pos (starEach es X.env)).any (·.1) = false := by rfl) :
    PeN X ex δ (.Call (.Name x p) (e :: es) [] pos) k := fun F σ H en tk => by
  obtain ⟨f, fd, G, hm, hk, hb⟩ := G.ex
  refine we_of (L2.pe_call G (hr.mono hnm) hg hm hk hb .nil (passesW tk) pa_self hdb he hpl) (wa_mono (h F σ H en tk) fun vs H1 ⟨en1, k1, ss, t1, q⟩ => ?_)
  rw [List.append_nil]
  have hZ : ∀ a ∈ owns δ ++ F.Z, a ∉ F.B := fun a m z => (List.mem_append.mp m).elim (fun m => en1.dj a m (List.mem_append_left _ z)) (fun m => en1.zm a m (en1.bm a z))
  refine ⟨F.B, owns δ ++ F.Z, ss, k, ex, en1.glo, hZ, t1, q, fun ns kn a H' hn ha hl kp g => ?_, fun c hc H' kp g => ⟨σ, Wx.of en1 kp g hc σ⟩⟩
  refine ⟨en1.step kp (g.sub fun b m => List.mem_cons_of_mem _ m), k1.trans kp, a, ns, rfl, en1.newAt k1 hn, ha, hl, g.sub fun b m => ?_, kn⟩
  rcases List.mem_append.mp m with m | m
  · exact List.mem_cons_of_mem _ (List.mem_append_left _ m)
  · rcases List.mem_cons.mp m with m | m
    · exact m ▸ List.mem_cons_self
    · exact List.mem_cons_of_mem _ (List.mem_append_right _ m)
/-- statements that end with such a list -/
def czN (F : Fm) (k : List Int → Prop) : Ends where
  nx := fun _ _ => False
  rt := fun v H => Kp F.mu F.h0 H ∧ ∃ a ns, v = .ref a ∧ F.h0 a = none ∧ H a = some (.lst (ns.map V.int)) ∧ (ns.map V.int).length ≤ sizeLine ∧ Glo F.B (a :: F.Z) H ∧ k ns
  bk := fun _ _ => False
  ct := fun _ _ => False
def PssN (X : Cx) (ex : Value → Prop) (δ : List Slot) (sts : List Stmt) (k : List Int → Prop) : Prop := ∀ (F : Fm) (σ : L2.St) (H : Hp), F.mu = F.B → En X.K F δ σ H → L2N.Takes X (Wx F ex) → WSs X sts (czN F k) σ H
theorem pssN_ret (h : PeN X ex δ e k) : PssN X ex δ [.Return (some e) pos] k := fun F σ H hmu en tk =>
  wss_of (L2.pss_one (L2.ps_ret pe_self)) (we_mono (h F σ H en tk) fun v H' ⟨en1, k1, a, ns, q1, q2, q3, q4, q5, q6⟩ => by
    refine ⟨en1.base, a, ns, q1, ?_, q3, q4, q5.sub fun b m => ?_, q6⟩
    · cases q : F.h0 a with
      | none => rfl
      | some o =>
        by_cases z : a ∈ F.mu
        · exact absurd q2 (en.tracked a (mem_msk.mpr (.inl (hmu ▸ z))))
        · have := en.base a o z q
          rw [q2] at this; cases this
    · rcases List.mem_cons.mp m with m | m
      · exact m ▸ List.mem_append_right _ List.mem_cons_self
      · exact List.mem_append_right _ (List.mem_cons_of_mem _ m))
theorem pssN_cons {st : Stmt} {rest : List Stmt} (h : Ps X δ st { nx := fun δ' => PssN X ex δ' rest k, rt := fun _ => False, ex := ex }) : PssN X ex δ (st :: rest) k := fun F σ H hmu en tk =>
  wss_of (L2.pss_cons ps_self pss_self) (ws_mono (h F σ H en tk) ⟨fun σ' H' ⟨δ', e', q⟩ => q F σ' H' hmu e' tk, fun v H' ⟨_, _, _, _, z⟩ => z.elim, fun σ' H' ⟨_, _, z⟩ => z.elim, fun σ' H' ⟨_, _, z⟩ => z.elim⟩)
end
/-- a def that returns a new list -/
theorem okN_of {P : Program} {w : World} {K : PySem.W.Frag} {mg : Str → Option Value} {base : Heap} {S : CtN} {x : Str} {st : Stmt} {N ps : List Str} {n : Nat} (F : Df K mg x st ps) (Sc : FnScope N ps (defScope st)) (hN : ps.length ≤ N.length) (len : ∀ ss k ex, S ss k ex → ss.length = ps.length)
    (body : ∀ (f : Addr) (cdv : Value) (A : Around) (outer : List Env) (s : Shared) (H : Hp) (E : XK) (ss : List Slot) (k : List Int → Prop) (ex : Value → Prop), Room n (A.deeper (envOfC x (defScope st) s.heap.objs.size f cdv)) → S ss k ex →
      PssN (cxOf (L2N.CX P w) P w K mg base N x (defScope st) f cdv A outer s H E) ex (ss ++ List.replicate (N.length - ps.length) .un) (defBody st) k) : OkN P w K mg base (n + 1) x ps S := by
  obtain ⟨f, fd, G, h1, h2⟩ := F.ex
  refine ⟨f, fd, okN G Sc (fun vs H Q E h => ?_) (fun cdv A outer s H vs Q E hr h => ?_), h1, G.kp, h2⟩
  · obtain ⟨B, Z, ss, k, ex, g, hz, ha, hS, _⟩ := h
    rw [← sargs_len ha]
    exact len ss k ex hS
  · obtain ⟨B, Z, ss, k, ex, g, hz, ha, hS, hq, he⟩ := h
    have hl := len ss k ex hS
    have e := en_start (N := N) g ha (by rw [← sargs_len ha, hl]; exact hN) hz
    rw [hl] at e
    refine ⟨_, pss_self, wss_mono (body f cdv A outer s H E ss k ex hr hS _ _ H rfl e ((L2N.takes_of rfl rfl rfl rfl).imp ?_)) ⟨?_, ?_, ?_, ?_⟩⟩
    · rintro c d σ H' ⟨e1, k1, g1, h1⟩
      subst e1
      exact he c h1 H' k1 g1
    · rintro σ' H' z
      exact z.elim
    · rintro v H' ⟨k1, a, ns, rfl, q2, q3, q4, q5, q6⟩
      exact hq ns q6 a H' q2 q3 q4 k1 q5
    · rintro σ' H' z
      exact z.elim
    · rintro σ' H' z
      exact z.elim
section
variable {X : Cx} {A : AE} {δ : List Slot} {x : Str} {e : Expr}
/-- x = e, e a new list: x owns it -/
theorem ps_asN (i : Nat) {p2 pos : Pos} (hN : X.N.Nodup) (h : PeN X A.ex δ e fun ns => ∀ q, A.nx (δ.set i (.own q (ns.map .int)))) (hi : X.N[i]? = some x := by rfl) (hx : Loc X.env.scope x := by first | exact Or.inl rfl | exact Or.inr rfl) (hs : swapsWith e (some (.Name x p2)) pos.line X.env = pure false := by rfl)
    (hf : X.fn x = true ∨ X.env.scope.names.lookup x = some .local := by first | exact .inl rfl | exact .inr rfl | assumption) : Ps X δ (.Assign [.Name x p2] e pos) A := fun F σ H en tk =>
  ws_of (ps_set hN hi hx pe_self hs hf) (we_mono (h F σ H en tk) fun v H' ⟨en1, k1, a, ns, ev, hn, ha, hl, g, nx⟩ => by
    subst ev
    have fr : a ∉ msk F δ := en.fresh hn
    -- the state with the list laid at a, as putOwn tells it, then all that came besides
    have e0 := en.putOwn i (xs := ns.map .int) hn hl (Tds.of_ints ns)
    refine ⟨_, e0.step (fun b o nb q => ?_) (g.sub fun b m => ?_), nx a⟩
    · by_cases z : b = a
      · rw [z, upd_same] at q
        cases q
        rw [z]; exact ha
      · rw [upd_ne z] at q
        exact k1 b o nb q
    · rcases List.mem_append.mp m with m | m
      · rcases owns_set_own b m with z | z
        · exact z ▸ List.mem_append_right _ List.mem_cons_self
        · exact List.mem_append_left _ z
      · exact List.mem_append_right _ (List.mem_cons_of_mem _ m))
end
end Tl
namespace Tl
open PySem PySem.Spec PyProof.Rows L2
section
variable {X : Cx} {ex : Value → Prop} {δ : List Slot} {b : Expr} {pos p2 : Pos} {x : Str} {k : Bool → Prop}
/-- x != e, x a list of one's own -/
theorem pt_neO (hu : X.A.units + 64 < cLine) (i : Nat) {q : Addr} {xs : List D} (hi : δ[i]? = some (.own q xs)) (h : Pe X ex δ b fun y => SeqAt.shaped (.list xs) = true ∧ SeqAt.shaped y = true ∧ k (!PyData.eqv (.list xs) y)) (hN : X.N[i]? = some x := by rfl)
    (hv : Vis X.env.scope x := by first | exact Or.inl rfl | exact Or.inr (Or.inl rfl) | exact Or.inr (Or.inr rfl)) (hd : (x == ("__debug__" : Str)) = false := by decide) (hcd : (x == ("__classdict__" : Str)) = false := by decide) :
    Pt X ex δ (.Compare (.Name x p2) [.NotEq] [b] pos) k := fun F σ H en tk => by
  obtain ⟨e1, _⟩ := en.ownAt hi
  refine wt_of (pt_cmpR (op_neD hu) (pe_var hN hv hd hcd) pe_self (nomark _)) ⟨_, e1, we_mono (h F σ H en tk) fun u H2 ⟨en2, k2, y, t2, s1, s2, q2⟩ => ?_⟩
  obtain ⟨_, vs, e3, z3, t3⟩ := en2.ownAt hi
  have sub : ∀ a o, mask (msk F δ) H2 a = some o → mask F.B H2 a = some o := mask_sub fun a m => mem_msk.mpr (.inl m)
  have nB : q ∉ F.B := fun z => en2.dj q (mem_owns hi) (List.mem_append_left _ z)
  refine d2_ne (k := fun d => ∃ c, d = .bool c ∧ k c) ⟨s1, s2, _, rfl, q2⟩ F.B H2 (.ref q) u (fun a m => en2.tracked a (mem_msk.mpr (.inl m))) (.lst (mask_of nB e3) z3 (t3.mono sub)) (t2.mono sub) _ fun z H3 d s3 t4 q3 => ?_
  obtain ⟨c, e4, q3⟩ := q3
  subst e4
  cases t4
  exact ⟨c, rfl, en2.same s3, k2.trans (.of_same s3), q3⟩
end
end Tl

set_option linter.all false
set_option maxRecDepth 100000
set_option maxHeartbeats 4000000
/-! TlN: lists of pairs of ints: sorted(ps), ps.remove(p); len(set(xs)). -/
namespace Tl
open PySem PySem.Spec PyProof.Rows L2
abbrev pD (p : Int × Int) : D := .tuple [.int p.1, .int p.2]
/-- the order of pairs -/
def leP (p q : Int × Int) : Prop := p.1 < q.1 ∨ (p.1 = q.1 ∧ p.2 ≤ q.2)
theorem td_pair {H : Hp} {v : V} {p : Int × Int} (h : Td H v (pD p)) : ∃ t, v = .ref t ∧ H t = some (.tup [.int p.1, .int p.2]) := by
  cases h with
  | tup e z t =>
    cases t with
    | cons t1 t =>
      cases t with
      | cons t2 t =>
        cases t
        cases t1
        cases t2
        exact ⟨_, rfl, e⟩
def keyP (H : Hp) : V → Int × Int
  | .ref t => match H t with
    | some (.tup [.int a, .int b]) => (a, b)
    | _ => (0, 0)
  | _ => (0, 0)
theorem keyP_td {H : Hp} {v : V} {p : Int × Int} (h : Td H v (pD p)) : keyP H v = p := by
  obtain ⟨t, rfl, e⟩ := td_pair h
  simp only [keyP, e]
theorem tds_keys {H : Hp} : ∀ {xs : List V} {ps : List (Int × Int)}, Tds H xs (ps.map pD) → xs.map (keyP H) = ps ∧ ∀ x ∈ xs, Td H x (pD (keyP H x))
  | [], [], _ => ⟨rfl, fun _ h => nomatch h⟩
  | [], _ :: _, h => nomatch h
  | _ :: _, [], h => nomatch h
  | x :: xs, p :: ps, h => by
    cases h with
    | cons t r =>
      obtain ⟨h1, h2⟩ := tds_keys r
      have e := keyP_td t
      refine ⟨by rw [List.map_cons, h1, e], fun y hy => ?_⟩
      rcases List.mem_cons.mp hy with z | z
      · rw [z, e]; exact t
      · exact h2 y z
theorem tds_of {H : Hp} {f : V → D} : ∀ {ys : List V}, (∀ y ∈ ys, Td H y (f y)) → Tds H ys (ys.map f)
  | [], _ => .nil
  | y :: ys, h => .cons (h y List.mem_cons_self) (tds_of fun z hz => h z (List.mem_cons_of_mem _ hz))
/-- what sorted leaves -/
theorem srt_out {H : Hp} {xs ys : List V} {ps : List (Int × Int)} (t : Tds H xs (ps.map pD)) (h1 : SrtO.Srtd (ltP (keyP H)) ys) (h2 : SrtO.Stb (ltP (keyP H)) ys xs) :
    ∃ ms : List (Int × Int), Tds H ys (ms.map pD) ∧ ms.Perm ps ∧ ms.Pairwise leP := by
  obtain ⟨k1, k2⟩ := tds_keys t
  refine ⟨ys.map (keyP H), ?_, ?_, ?_⟩
  · rw [List.map_map]
    exact tds_of fun y hy => k2 y (h2.perm.mem_iff.mp hy)
  · have := h2.perm.map (keyP H)
    rw [k1] at this
    exact this
  · refine List.pairwise_map.mpr (List.Pairwise.imp (fun {a b} h => ?_) h1)
    have := SrtO.lexB_no.mp h
    unfold leP
    omega
section
variable {X : Cx} {ex : Value → Prop} {δ : List Slot} {e : Expr} {p pos : Pos} {k : D → Prop}
/-- sorted(ps), ps a list of pairs of ints -/
theorem pe_srtP (hm : X.mg "sorted" = none) (h : Pe X ex δ e fun d => ∃ ps : List (Int × Int), d = .list (ps.map pD) ∧ ∀ ms : List (Int × Int), ms.Perm ps → ms.Pairwise leP → k (.list (ms.map pD))) (hg : Gl X "sorted" := by rfl)
    (he : starEach [e] X.env = (false, eval e X.env) :: starEach [] X.env := by rfl) (hpl : (backTo pos (starEach [] X.env)).any (·.1) = false := by rfl) : Pe X ex δ (.Call (.Name "sorted" p) [e] [] pos) k :=
  pe_bi cr_sortedPO hm (by decide +kernel) (pa_cons (h.mono fun d ⟨ps, e1, q⟩ => pa_nil ⟨[d], rfl, fun M H vs hM t Q hq => by
    subst e1
    cases t with
    | cons t r =>
      cases r
      cases t with
      | lst e z t =>
        refine ⟨_, _, keyP (mask M H), rfl, .of (mask_le _ _ e), fun x hx => ?_, fun ys p h1 h2 hp => ?_⟩
        · obtain ⟨t', e1, e2⟩ := td_pair ((tds_keys t).2 x hx)
          exact ⟨t', e1, mask_le _ _ e2⟩
        · obtain ⟨ms, t2, m1, m2⟩ := srt_out t h1 h2
          exact hq _ _ (.list (ms.map pD)) (same_upd hp) (.lst (mask_new hM hp) (by rw [h2.len]; exact z) (t2.mono fun a o w => by
            obtain ⟨n, w⟩ := of_mask w
            exact mask_of n (same_upd hp a o w))) (q ms m1 m2)⟩) he) hg (by decide) (by decide) he hpl
/-- len(set(xs)), xs a list of ints without twins -/
theorem pe_lnSet {p2 q0 : Pos} (hc : X.calm = true) (hm : X.mg "len" = none) (hm2 : X.mg "set" = none) (h : Pe X ex δ e fun d => ∃ ns : List Int, d = .list (ns.map .int) ∧ ns.Nodup ∧ ns.length ≤ 4000 ∧ k (.int (ns.length : Nat))) (hg : Gl X "len" := by rfl) (hg2 : Gl X "set" := by rfl)
    (na : starEach [e] X.env = (false, eval e X.env) :: starEach [] X.env := by rfl) : Pe X ex δ (.Call (.Name "len" p) [.Call (.Name "set" p2) [e] [] q0] [] pos) k := fun F σ H en tk =>
  we_of (RZ.pe_lenSetI hg hm hg2 hm2 pe_self hc na) (we_mono (h F σ H en tk) fun v H1 ⟨en1, k1, d, t, ns, e1, h1, h2, q⟩ => by
    subst e1
    obtain ⟨a, rfl, ha⟩ := ints_td t
    exact ⟨a, ns, rfl, .of (mask_le _ _ ha), h1, h2, en1, k1, _, .int _, q⟩)
end
section
variable {X : Cx} {A : AE} {δ : List Slot} {x : Str} {e : Expr} {pos : Pos}
/-- x = sorted(ps): x owns it -/
theorem ps_asSrtP (i : Nat) {p p2 p3 : Pos} (hN : X.N.Nodup) (hm : X.mg "sorted" = none) (h : Pe X A.ex δ e fun d => ∃ ps : List (Int × Int), d = .list (ps.map pD) ∧ ∀ ms : List (Int × Int), ms.Perm ps → ms.Pairwise leP → ∀ q, A.nx (δ.set i (.own q (ms.map pD)))) (hg : Gl X "sorted" := by rfl)
    (he : starEach [e] X.env = (false, eval e X.env) :: starEach [] X.env := by rfl) (hpl : (backTo p3 (starEach [] X.env)).any (·.1) = false := by rfl) (hi : X.N[i]? = some x := by rfl) (hx : Loc X.env.scope x := by first | exact Or.inl rfl | exact Or.inr rfl)
    (hs : swapsWith (.Call (.Name "sorted" p) [e] [] p3) (some (.Name x p2)) pos.line X.env = pure false := by rfl) (hf : X.fn x = true ∨ X.env.scope.names.lookup x = some .local := by first | exact .inl rfl | exact .inr rfl | assumption) :
    Ps X δ (.Assign [.Name x p2] (.Call (.Name "sorted" p) [e] [] p3) pos) A := fun F σ H en tk =>
  ws_of (ps_set hN hi hx (L2.pe_callB cr_sortedPO hg hm (by decide +kernel) (L2.pa_cons pe_self L2.pa_nil he) (by decide) (by decide) he hpl) hs hf) (we_mono (h F σ H en tk) fun v H1 ⟨en1, k1, d, t, ps, e1, q⟩ => by
    subst e1
    cases t with
    | lst e z t =>
      refine ⟨_, _, keyP (mask (msk F δ) H1), rfl, .of (mask_le _ _ e), fun x hx => ?_, fun ys p h1 h2 hp => ?_⟩
      · obtain ⟨t', e1, e2⟩ := td_pair ((tds_keys t).2 x hx)
        exact ⟨t', e1, mask_le _ _ e2⟩
      · obtain ⟨ms, t2, m1, m2⟩ := srt_out t h1 h2
        exact ⟨_, en1.putOwn i hp (by rw [h2.len]; exact z) t2, q ms m1 m2 p⟩)
end
theorem room65 {k : Nat} {A : Around} (r : Room k A) : A.units + 65 < cLine := by have := r.un; omega
/-! ### ps.remove(p) -/
def rRemD (K : PySem.W.Frag) : V → List V → Hp → VK → Prop := fun x xs H Q => ∃ (l : Addr) (ws : List V) (y : V) (d : D) (ds : List D) (j : Nat) (z : D), x = .ref l ∧ xs = [y] ∧ H l = some (.lst ws) ∧ DpAll K H ws ds ∧ Dp K H y d ∧
  SeqAt.shaped (.list ds) = true ∧ SeqAt.shaped d = true ∧ ds[j]? = some z ∧ PyData.eqv z d = true ∧ (∀ (m : Nat) (z' : D), m < j → ds[m]? = some z' → PyData.eqv z' d = false) ∧ Q .non (upd H l (.lst (ws.eraseIdx j)))
theorem mt_removeD {X : Cx} (hu : X.A.units + 65 < cLine) : MtM X "list.remove" (rRemD X.K) := by
  intro pins s σ H x xs v us Q I rx rxs h
  obtain ⟨l, ws, y, d, ds, j, z, rfl, rfl, hH, ha, hy, sl, sd, hz, hzj, hno, q⟩ := h
  cases rx
  obtain ⟨uy, rfl, ry⟩ := rxs.one
  obtain ⟨bs, r1⟩ := Dp.reads I d y uy hy ry
  have hxs : PyData.canLayAll0 ds = true := SeqAt.canLay_of_shaped sl
  have hroom : X.A.units + 1 + min (PyData.depthAll ds) d.depth < cLine := room_in_shaped sd hu
  obtain ⟨zl, its, n, rv, hl, ho⟩ := I.lstM hH
  obtain ⟨as, h4⟩ := Dp.readsAll I ds _ its ha rv
  have hn : its.length = ds.length := SeqAt.ReadsAll.length ds its as h4
  have hmap : its.map (SeqAt.readOf s.heap) = ds := SeqAt.readsAll_map ds its as hxs h4
  obtain ⟨hjd, _⟩ := List.getElem?_eq_some_iff.mp hz
  have hjl : j < its.length := by omega
  have hj : j < its.toArray.size := by simpa using hjl
  have at_ : ∀ (m : Nat) (hm : m < its.toArray.size) (z' : D), ds[m]? = some z' → SeqAt.readOf s.heap its.toArray[m] = z' := by
    intro m hm z' hz'
    have hml : m < its.length := by simpa using hm
    rw [← hmap, List.getElem?_map, List.getElem?_eq_getElem hml] at hz'
    have e1 : SeqAt.readOf s.heap its[m] = z' := Option.some.inj (show some (SeqAt.readOf s.heap its[m]) = some z' from hz')
    simpa using e1
  have hsz : its.toArray.size ≤ sizeLine := by rw [List.size_toArray, ← hl]; exact zl
  refine call_meets PySem.F.slot_list_remove ⟨_, ho, rfl⟩ PySem.F.entry_list_remove (PySem.F.args_list_remove_2 _ _)
    (SeqAt.list_removeAt l its.toArray n none #[] uy (fun u => PyData.eqv (SeqAt.readOf s.heap u) d) j hj ?_ ?_ hsz) ⟨ho, SeqAt.items_eqAt (vs := its.toArray) (show ReadsAll s.heap its.toArray.toList ds as from h4) r1 hxs (SeqAt.canLay_of_shaped sd) hroom, ?_⟩
  · show PyData.eqv (SeqAt.readOf s.heap its.toArray[j]) d = true
    rw [at_ j hj z hz]
    exact hzj
  · intro m hm hmj
    have hmd : m < ds.length := by omega
    have hz' : ds[m]? = some ds[m] := List.getElem?_eq_getElem hmd
    show PyData.eqv (SeqAt.readOf s.heap its.toArray[m]) d = false
    rw [at_ m hm _ hz']
    exact hno m _ hmj hz'
  · refine ⟨.non, _, I.lset (its' := its.eraseIdx j) hH ho ?_ (rv.eraseIdx j) ?_, rfl, q⟩
    · show its.toArray.eraseIdxIfInBounds j = (its.eraseIdx j).toArray
      rw [List.eraseIdxIfInBounds_toArray]
    · exact Nat.le_trans (List.length_eraseIdx_le _ _) zl
theorem Tds.eraseIdx {H : Hp} : ∀ {vs : List V} {ds : List D} (j : Nat), Tds H vs ds → Tds H (vs.eraseIdx j) (ds.eraseIdx j)
  | [], _, j, .nil => by simpa using Tds.nil
  | _ :: _, _, 0, .cons t r => r
  | _ :: _, _, j + 1, .cons t r => .cons t (r.eraseIdx j)
theorem pD_eqv (p q : Int × Int) : PyData.eqv (pD p) (pD q) = decide (p = q) := by
  have e : PyData.eqv (pD p) (pD q) = ((p.1 == q.1) && ((p.2 == q.2) && true)) := by simp only [pD, PyData.eqv, PyData.eqvAll]
  rw [e, Bool.and_true]
  by_cases h : p = q
  · subst h; simp
  · rw [decide_eq_false h]
    by_cases h1 : p.1 = q.1
    · by_cases h2 : p.2 = q.2
      · exact absurd (Prod.ext h1 h2) h
      · rw [beq_eq_false_iff_ne.mpr h2, Bool.and_false]
    · rw [beq_eq_false_iff_ne.mpr h1, Bool.false_and]
theorem pD_shaped (p : Int × Int) : SeqAt.shaped (pD p) = true := by
  simp [pD, SeqAt.shaped, PyData.canLay0, PyData.canLayAll0, PyData.depth, PyData.depthAll]
theorem pairs_lay : ∀ ps : List (Int × Int), PyData.canLayAll0 (ps.map pD) = true
  | [] => rfl
  | p :: ps => by simp [PyData.canLayAll0, PyData.canLay0, pairs_lay ps]
theorem pairs_depth : ∀ ps : List (Int × Int), PyData.depthAll (ps.map pD) ≤ 1
  | [] => by simp [PyData.depthAll]
  | p :: ps => by have := pairs_depth ps; simp only [List.map_cons, PyData.depthAll, PyData.depth]; omega
theorem pairs_shaped (ps : List (Int × Int)) : SeqAt.shaped (.list (ps.map pD)) = true := by
  have h1 := pairs_depth ps
  show (PyData.canLay0 (.list (ps.map pD)) && decide (PyData.depth (.list (ps.map pD)) ≤ 64)) = true
  rw [Bool.and_eq_true]
  refine ⟨by simp only [PyData.canLay0]; exact pairs_lay ps, decide_eq_true ?_⟩
  simp only [PyData.depth]
  omega
/-- where p first stands -/
theorem pair_first : ∀ {ps : List (Int × Int)} {p : Int × Int}, p ∈ ps → ∃ j, ps[j]? = some p ∧ (∀ i, i < j → ps[i]? ≠ some p) ∧ ps.eraseIdx j = ps.erase p
  | [], p, h => nomatch h
  | a :: r, p, h => by
    by_cases e : a = p
    · refine ⟨0, by rw [e]; rfl, fun i hi => absurd hi (Nat.not_lt_zero _), ?_⟩
      rw [e, List.erase_cons_head]; rfl
    · have hr : p ∈ r := by
        rcases List.mem_cons.mp h with z | z
        · exact absurd z.symm e
        · exact z
      obtain ⟨j, h2, h3, h4⟩ := pair_first hr
      refine ⟨j + 1, h2, fun i hi => ?_, ?_⟩
      · cases i with
        | zero => intro z; exact e (Option.some.inj z)
        | succ i => exact h3 i (Nat.lt_of_succ_lt_succ hi)
      · rw [List.erase_cons_tail (by rw [beq_iff_eq]; exact e), ← h4]; rfl
theorem map_eraseIdxD (f : Int × Int → D) : ∀ (ps : List (Int × Int)) (j : Nat), (ps.map f).eraseIdx j = (ps.eraseIdx j).map f
  | [], _ => rfl
  | _ :: _, 0 => rfl
  | n :: r, j + 1 => by
    show f n :: (r.map f).eraseIdx j = f n :: (r.eraseIdx j).map f
    rw [map_eraseIdxD f r j]
section
variable {X : Cx} {A : AE} {δ : List Slot} {x : Str} {e : Expr} {pos : Pos}
theorem ps_remP (i : Nat) {p2 p3 p4 : Pos} {q : Addr} {ps : List (Int × Int)} (hi : δ[i]? = some (.own q (ps.map pD))) (h : Pe X A.ex δ e fun d => ∃ p, d = pD p ∧ p ∈ ps ∧ A.nx (δ.set i (.own q ((ps.erase p).map pD))))
    (hs : swapsWith (.Call (.Attribute (.Name x p2) "remove" p3) [e] [] p4) none pos.line X.env = pure false := by rfl)
    (hap : ∀ (tt : TE), PE X e tt → PE X (.Call (.Attribute (.Name x p2) "remove" p3) [e] [] p4) (tBM X.K "list" (rRemD X.K) (tVar i) (tCons tt tNil))) : Ps X δ (.Expr (.Call (.Attribute (.Name x p2) "remove" p3) [e] [] p4) pos) A := fun F σ H en tk => by
  obtain ⟨e1, vs, e2, z, t⟩ := en.ownAt hi
  refine ws_of (L2.ps_expr (hap _ pe_self) hs) ⟨_, e1, .inl ⟨rfl, _, SqL.of e2⟩, we_mono (h F σ H en tk) fun v H1 ⟨en1, k1, d, td, p, ed, hp, nx⟩ => ?_⟩
  subst ed
  obtain ⟨_, ws, e3, z3, t3⟩ := en1.ownAt hi
  obtain ⟨j, j1, j2, j3⟩ := pair_first hp
  refine ⟨q, ws, v, pD p, ps.map pD, j, pD p, rfl, rfl, e3, (t3.mono (fun a o w => mask_le a o w)).dp, (td.mono (fun a o w => mask_le a o w)).dp, pairs_shaped ps, pD_shaped p, by rw [List.getElem?_map, j1]; rfl, by rw [pD_eqv]; exact decide_eq_true rfl, fun m z' hm hz' => ?_, ?_⟩
  · rw [List.getElem?_map] at hz'
    cases w : ps[m]? with
    | none => rw [w] at hz'; cases hz'
    | some p' =>
      rw [w] at hz'
      have e := Option.some.inj hz'
      rw [← e, pD_eqv]
      exact decide_eq_false fun y => j2 m hm (by rw [w, y])
  · have t4 := t3.eraseIdx j
    rw [map_eraseIdxD, j3] at t4
    exact ⟨_, en1.updOwn hi (Nat.le_trans (List.length_eraseIdx_le _ _) z3) t4, nx⟩
end
/-! ### min(ps) -/
theorem minD_pairs : ∀ (ps : List (Int × Int)) (p : Int × Int), ∃ m, PySem.W.minD (pD p) (ps.map pD) = pD m ∧ m ∈ p :: ps ∧ ∀ q ∈ p :: ps, leP m q
  | [], p => ⟨p, rfl, List.mem_cons_self, fun q hq => by
    rw [List.mem_singleton.mp hq]
    exact .inr ⟨rfl, Int.le_refl _⟩⟩
  | q :: ps, p => by
    have e : PySem.W.minD (pD p) ((q :: ps).map pD) = PySem.W.minD (if PySem.W.dataLt (pD q) (pD p) then pD q else pD p) (ps.map pD) := rfl
    have e2 : PySem.W.dataLt (pD q) (pD p) = decide (q.1 < p.1 ∨ (q.1 = p.1 ∧ q.2 < p.2)) := PySem.W.dataLt_ii _ _ _ _
    by_cases h : q.1 < p.1 ∨ (q.1 = p.1 ∧ q.2 < p.2)
    · rw [decide_eq_true h] at e2
      rw [e2, if_pos rfl] at e
      obtain ⟨m, m1, m2, m3⟩ := minD_pairs ps q
      refine ⟨m, e.trans m1, List.mem_cons_of_mem _ m2, fun x hx => ?_⟩
      rcases List.mem_cons.mp hx with z | z
      · have := m3 q List.mem_cons_self
        rw [z]
        unfold leP at *
        omega
      · exact m3 x z
    · rw [decide_eq_false h] at e2
      rw [e2, if_neg (by decide)] at e
      obtain ⟨m, m1, m2, m3⟩ := minD_pairs ps p
      refine ⟨m, e.trans m1, ?_, fun x hx => ?_⟩
      · rcases List.mem_cons.mp m2 with z | z
        · rw [z]; exact List.mem_cons_self
        · exact List.mem_cons_of_mem _ (List.mem_cons_of_mem _ z)
      · rcases List.mem_cons.mp hx with z | z
        · rw [z]; exact m3 p List.mem_cons_self
        · rcases List.mem_cons.mp z with z | z
          · have := m3 p List.mem_cons_self
            rw [z]
            unfold leP at *
            omega
          · exact m3 x (List.mem_cons_of_mem _ z)
def rMinP (K : PySem.W.Frag) : List V → Hp → VK → Prop := fun vs H Q => ∃ (a : Addr) (xs : List V) (ps : List (Int × Int)), vs = [V.ref a] ∧ SqL K H a xs ∧ DpAll K H xs (ps.map pD) ∧ ps ≠ [] ∧
  ∀ (i : Nat) (x : V) (p : Int × Int), xs[i]? = some x → ps[i]? = some p → (∀ q ∈ ps, leP p q) → Q x H
theorem pD_inj {p q : Int × Int} (h : pD p = pD q) : p = q := by
  cases p; cases q
  cases h; rfl
theorem alike_pairs (ps : List (Int × Int)) : PySem.W.AlikeAll (ps.map pD) := by
  refine ⟨fun x hx y hy => ?_, fun x hx => ?_⟩
  · obtain ⟨p, _, rfl⟩ := List.mem_map.mp hx
    obtain ⟨q, _, rfl⟩ := List.mem_map.mp hy
    rfl
  · obtain ⟨p, _, rfl⟩ := List.mem_map.mp hx
    exact fun z => nomatch z
theorem cr_minP {X : Cx} (hc : X.calm = true) (hu : X.A.units + 65 < cLine) : CallR X (.builtin "min") (rMinP X.K) := by
  intro pins s σ H vs us Q I r h
  obtain ⟨a, xs, ps, rfl, hs, hd, hne, q⟩ := h
  obtain ⟨its, rv, pl, hz⟩ := I.list hs
  rw [Vals.ref1 r]
  obtain ⟨as, h4⟩ := Dp.readsAll I _ _ its hd rv
  cases ps with
  | nil => exact absurd rfl hne
  | cons p ps =>
    obtain ⟨m, m1, m2, m3⟩ := minD_pairs ps p
    have hdp := pairs_depth (p :: ps)
    refine PySem.W.min_list_data (x := pD p) (xs := ps.map pD) (I.ok.hd hc) pl.isList (show ReadsAll s.heap its.toArray.toList (pD p :: ps.map pD) as from h4) (alike_pairs (p :: ps)) (by have : PyData.depthAll (pD p :: ps.map pD) ≤ 1 := hdp; omega) fun i v h' tk bs hi rd kp => ?_
    have hmap : its.map (SeqAt.readOf s.heap) = (p :: ps).map pD := SeqAt.readsAll_map _ its as (pairs_lay (p :: ps)) h4
    have hi2 : its[i]? = some v := by rw [← Array.getElem?_toList] at hi; exact hi
    have hl := (List.getElem?_eq_some_iff.mp hi2).1
    have hlx : xs.length = its.length := rv.length
    obtain ⟨x, hx⟩ : ∃ x, xs[i]? = some x := ⟨xs[i], List.getElem?_eq_getElem (by omega)⟩
    obtain ⟨v', hv', rx⟩ := rv.get hx
    rw [hi2] at hv'
    cases hv'
    have hlp : its.length = (p :: ps).length := by have := congrArg List.length hmap; rw [List.length_map, List.length_map] at this; exact this
    obtain ⟨p', hp'⟩ : ∃ p', (p :: ps)[i]? = some p' := ⟨(p :: ps)[i], List.getElem?_eq_getElem (by omega)⟩
    have e1 : SeqAt.readOf s.heap v = pD p' := by
      have z : (its.map (SeqAt.readOf s.heap))[i]? = ((p :: ps).map pD)[i]? := by rw [hmap]
      rw [List.getElem?_map, List.getElem?_map, hi2, hp'] at z
      exact Option.some.inj z
    have e2 : SeqAt.readOf h' v = pD m := SeqAt.readOf_eq (SeqAt.canLay_of_shaped (pD_shaped m)) (m1 ▸ rd)
    obtain ⟨cs, r3, _⟩ := PySem.W.readsAll_at h4 i v hi2
    rw [show ((p :: ps).map pD).getD i .none = pD p' by rw [List.getD_eq_getElem?_getD, List.getElem?_map, hp']; rfl] at r3
    have e3 : SeqAt.readOf h' v = pD p' := SeqAt.readOf_eq (SeqAt.canLay_of_shaped (pD_shaped p')) (PySem.W.reads_keeps kp r3)
    have e4 : p' = m := pD_inj (e3.symm.trans e2)
    exact ⟨x, H, I.kept (t' := tk) kp, rx, q i x p' hx hp' (by rw [e4]; exact m3)⟩
section
variable {X : Cx} {ex : Value → Prop} {δ : List Slot} {e a b : Expr} {p pos : Pos} {k : D → Prop}
/-- min(ps), ps a list of pairs of ints -/
theorem pe_minP (hc : X.calm = true) (hu : X.A.units + 65 < cLine) (hm : X.mg "min" = none) (h : Pe X ex δ e fun d => ∃ ps : List (Int × Int), d = .list (ps.map pD) ∧ ps ≠ [] ∧ ∀ p ∈ ps, (∀ q ∈ ps, leP p q) → k (pD p)) (hg : Gl X "min" := by rfl)
    (he : starEach [e] X.env = (false, eval e X.env) :: starEach [] X.env := by rfl) (hpl : (backTo pos (starEach [] X.env)).any (·.1) = false := by rfl) : Pe X ex δ (.Call (.Name "min" p) [e] [] pos) k := fun F σ H en tk =>
  we_of (L2.pe_callB (cr_minP hc hu) hg hm (by decide +kernel) (L2.pa_cons pe_self L2.pa_nil he) (by decide) (by decide) he hpl) (we_mono (h F σ H en tk) fun v H1 ⟨en1, k1, d, t, ps, e1, hne, q⟩ => by
    subst e1
    cases t with
    | lst e z t =>
      refine ⟨_, _, ps, rfl, .of (mask_le _ _ e), (t.mono (fun a o w => mask_le a o w)).dp, hne, fun i x p hx hp hmin => ?_⟩
      obtain ⟨d, hd, td⟩ := t.get hx
      rw [List.getElem?_map, hp] at hd
      cases hd
      exact ⟨en1, k1, _, td, q p (List.mem_of_getElem? hp) hmin⟩)
/-- xs.index(n) -/
theorem pe_idx {p2 p4 : Pos} (h : Pe X ex δ a fun d => ∃ ns : List Int, d = .list (ns.map .int) ∧ Pe X ex δ b fun d' => ∃ (n : Int) (j : Nat), d' = .int n ∧ ns[j]? = some n ∧ (∀ i, i < j → ns[i]? ≠ some n) ∧ k (.int (j : Nat)))
    (hap : ∀ (ta tb : TE), PE X a ta → PE X b tb → PE X (.Call (.Attribute a "index" p2) [b] [] p4) (tBM X.K "list" (rIndex X.K) ta (tCons tb tNil))) : Pe X ex δ (.Call (.Attribute a "index" p2) [b] [] p4) k := fun F σ H en tk =>
  we_of (hap _ _ pe_self pe_self) (we_mono (h F σ H en tk) fun v H1 ⟨en1, k1, d, t, ns, e1, q⟩ => by
    subst e1
    obtain ⟨l, rfl, hl⟩ := ints_td t
    refine ⟨.inl ⟨rfl, _, .of (mask_le _ _ hl)⟩, we_mono (q F σ H1 en1 tk) fun u H2 ⟨en2, k2, d', t', n, j, e2, h1, h2, q2⟩ => ?_⟩
    subst e2
    cases t'
    have hl2 := kp_msk k2 _ _ hl
    refine ⟨l, ns.map V.int, .int n, j, .int n, rfl, rfl, .of (mask_le _ _ hl2), rfl, ?_, by rw [List.getElem?_map, h1]; rfl, beq_self_eq_true n, fun m z' hm hz' => ?_, en2, k1.trans k2, _, .int _, q2⟩
    · rw [List.all_map]
      exact List.all_eq_true.mpr fun _ _ => rfl
    · rw [List.getElem?_map] at hz'
      cases w : ns[m]? with
      | none => rw [w] at hz'; cases hz'
      | some n' =>
        rw [w] at hz'
        cases hz'
        exact beq_eq_false_iff_ne.mpr fun e => h2 m hm (by rw [w, e]))
end
end Tl

set_option linter.all false
set_option maxRecDepth 100000
set_option maxHeartbeats 4000000
/-! Tp: what the program's defs compute, as plain functions over data. -/
namespace Tp
open PySem PySem.Spec PyProof.Rows L2 Tl
def isIntD (d : D) (lo hi : Int) : Bool := match d with | .int i => decide (lo ≤ i) && decide (i ≤ hi) | _ => false
def isPairD (d : D) : Bool := match d with | .tuple [_, _] => true | _ => false
def isKindD (d : D) : Bool := match d with | .tuple [a, b] => isIntD a 1 500 && isIntD b 0 20 | _ => false
def isSideD (d : D) : Bool := match d with | .str s => decide (s = ("right" : Str)) || decide (s = ("left" : Str)) | _ => false
def isBorderD (d : D) : Bool := match d with | .tuple [a, b] => isIntD a (-1000000000000000) 1000000000000000 && isSideD b | _ => false
abbrev kD (t j : Int) : D := .tuple [.int t, .int j]
def sideS (rt : Bool) : Str := if rt then ("right" : Str) else ("left" : Str)
abbrev bD (p : Int) (rt : Bool) : D := .tuple [.int p, .str (sideS rt)]
/-- a kind -/
structure IsKind (t j : Int) : Prop where
  t1 : 1 ≤ t
  t2 : t ≤ 500
  j1 : 0 ≤ j
  j2 : j ≤ 20
structure IsPlace (p : Int) : Prop where
  lo : -1000000000000000 ≤ p
  hi : p ≤ 1000000000000000
def width (t j o p : Int) (rt : Bool) : Int :=
  if rt = true then max 0 (t - (p - o) % (t + j))
  else if (p - o) % (t + j) = 0 then (if j = 0 then t else 0)
  else if (p - o) % (t + j) ≤ t then (p - o) % (t + j) else 0
theorem right_ne_left : ("right" : Str) ≠ ("left" : Str) := by decide +kernel
theorem left_ne_right : ("left" : Str) ≠ ("right" : Str) := by decide +kernel
theorem sideS_right (rt : Bool) : (sideS rt == ("right" : Str)) = rt := by
  cases rt
  · exact beq_eq_false_iff_ne.mpr left_ne_right
  · exact beq_self_eq_true _
theorem eqv_int (i j : Int) : PyData.eqv (.int i) (.int j) = decide (i = j) := by
  show (i == j) = _
  exact Bool.beq_eq_decide_eq i j
theorem eqv_side (rt : Bool) : PyData.eqv (.str (sideS rt)) (.str ("right" : Str)) = rt := sideS_right rt
theorem sideS_left (rt : Bool) : (sideS rt == ("left" : Str)) = !rt := by
  cases rt
  · exact beq_self_eq_true _
  · exact beq_eq_false_iff_ne.mpr right_ne_left
theorem eqv_sideL (rt : Bool) : PyData.eqv (.str (sideS rt)) (.str ("left" : Str)) = !rt := sideS_left rt
theorem shaped_right : SeqAt.shaped (.str ("right" : Str)) = true := by decide +kernel
theorem shaped_left : SeqAt.shaped (.str ("left" : Str)) = true := by decide +kernel
theorem shaped_side (rt : Bool) : SeqAt.shaped (.str (sideS rt)) = true := by
  cases rt
  · exact shaped_left
  · exact shaped_right
theorem pair_len (xs : List D) : PyData.bool (PyData.eqv (.int xs.length) (.int 2)) = .bool (isPairD (.tuple xs)) := by
  rw [eqv_int]
  match xs with
  | [] => rfl
  | [_] => rfl
  | [_, _] => rfl
  | a :: b :: c :: r =>
    have : ¬ (((a :: b :: c :: r : List D).length : Nat) : Int) = 2 := by simp only [List.length_cons]; omega
    rw [decide_eq_false this]
    rfl
theorem no_pair_kind {v : D} (h : isPairD v = false) : PyData.bool false = .bool (isKindD v) := by
  cases q : isKindD v with
  | false => rfl
  | true =>
    unfold isKindD at q
    split at q
    · cases h
    · cases q
theorem no_pair_border {v : D} (h : isPairD v = false) : PyData.bool false = .bool (isBorderD v) := by
  cases q : isBorderD v with
  | false => rfl
  | true =>
    unfold isBorderD at q
    split at q
    · cases h
    · cases q
theorem side_in (z : Str) : PyData.bool (inD (.str z) [.str ("right" : Str), .str ("left" : Str)]) = .bool (isSideD (.str z)) := by
  have e1 : (("right" : Str) == z) = decide (z = ("right" : Str)) := by
    rw [Bool.eq_iff_iff, beq_iff_eq, decide_eq_true_iff]; exact ⟨Eq.symm, Eq.symm⟩
  have e2 : (("left" : Str) == z) = decide (z = ("left" : Str)) := by
    rw [Bool.eq_iff_iff, beq_iff_eq, decide_eq_true_iff]; exact ⟨Eq.symm, Eq.symm⟩
  show PyData.bool ((("right" : Str) == z) || ((("left" : Str) == z) || false)) = .bool (decide _ || decide _)
  rw [e1, e2, Bool.or_false]
theorem isIntD_iff {d : D} {lo hi : Int} : isIntD d lo hi = true ↔ ∃ i, d = .int i ∧ lo ≤ i ∧ i ≤ hi := by
  constructor
  · intro h
    cases d with
    | int i =>
      simp only [isIntD, Bool.and_eq_true, decide_eq_true_eq] at h
      exact ⟨i, rfl, h.1, h.2⟩
    | _ => cases h
  · rintro ⟨i, rfl, h1, h2⟩
    simp [isIntD, h1, h2]
theorem isKindD_iff {d : D} : isKindD d = true ↔ ∃ t j, d = kD t j ∧ IsKind t j := by
  constructor
  · intro h
    unfold isKindD at h
    split at h
    · rename_i a b
      rw [Bool.and_eq_true] at h
      obtain ⟨t, rfl, h1, h2⟩ := isIntD_iff.mp h.1
      obtain ⟨j, rfl, h3, h4⟩ := isIntD_iff.mp h.2
      exact ⟨t, j, rfl, ⟨h1, h2, h3, h4⟩⟩
    · cases h
  · rintro ⟨t, j, rfl, h⟩
    show (isIntD _ _ _ && isIntD _ _ _) = true
    rw [isIntD_iff.mpr ⟨t, rfl, h.t1, h.t2⟩, isIntD_iff.mpr ⟨j, rfl, h.j1, h.j2⟩] <;> rfl
theorem isSideD_iff {d : D} : isSideD d = true ↔ ∃ rt, d = .str (sideS rt) := by
  constructor
  · intro h
    cases d with
    | str s =>
      simp only [isSideD, Bool.or_eq_true, decide_eq_true_eq] at h
      rcases h with h | h
      · exact ⟨true, by rw [h]; rfl⟩
      · exact ⟨false, by rw [h]; rfl⟩
    | _ => cases h
  · rintro ⟨rt, rfl⟩
    cases rt <;> simp [isSideD, sideS]
theorem isBorderD_iff {d : D} : isBorderD d = true ↔ ∃ p rt, d = bD p rt ∧ IsPlace p := by
  constructor
  · intro h
    unfold isBorderD at h
    split at h
    · rename_i a b
      rw [Bool.and_eq_true] at h
      obtain ⟨p, rfl, h1, h2⟩ := isIntD_iff.mp h.1
      obtain ⟨rt, rfl⟩ := isSideD_iff.mp h.2
      exact ⟨p, rt, rfl, ⟨h1, h2⟩⟩
    · cases h
  · rintro ⟨p, rt, rfl, h⟩
    show (isIntD _ _ _ && isSideD _) = true
    rw [isIntD_iff.mpr ⟨p, rfl, h.lo, h.hi⟩, isSideD_iff.mpr ⟨rt, rfl⟩] <;> rfl
theorem isPairD_iff {d : D} : isPairD d = true ↔ ∃ a b, d = .tuple [a, b] := by
  constructor
  · intro h
    unfold isPairD at h
    split at h
    · exact ⟨_, _, rfl⟩
    · cases h
  · rintro ⟨a, b, rfl⟩
    rfl
/-- the facts of a class of errors -/
structure XF (K : PySem.W.Frag) (mg : Str → Option Value) (x : Str) (C : Addr) : Prop where
  glob : mg x = some (.ref C)
  exc : PySem.W.excIn K C [.type "ValueError", .type "Exception", .type "BaseException", .type "object"] "ValueError.__new__" = true
  kp : PySem.W.keepIn K (.ref C) = true
  base : PySem.W.subIn K (.ref C) (.type "BaseException") = some true
  typ : PySem.W.typeIn K (.ref C) = some (.type "type")
/-! contracts -/
def s_is_integer : Ct := fun ss k _ => ∃ v lo hi, ss = [.d v, .d (.int lo), .d (.int hi)] ∧ k (.bool (isIntD v lo hi))
def s_is_pair : Ct := fun ss k _ => ∃ v, ss = [.d v] ∧ k (.bool (isPairD v))
def s_is_kind : Ct := fun ss k _ => ∃ v, ss = [.d v] ∧ k (.bool (isKindD v))
def s_is_side : Ct := fun ss k _ => ∃ v, ss = [.d v] ∧ k (.bool (isSideD v))
def s_is_border : Ct := fun ss k _ => ∃ v, ss = [.d v] ∧ k (.bool (isBorderD v))
def s_step_of : Ct := fun ss k _ => ∃ t j, ss = [.d (kD t j)] ∧ k (.int (t + j))
def s_need_kind (C : Addr) : Ct := fun ss k ex => ∃ v, ss = [.d v] ∧ (isKindD v = true → k .none) ∧ (isKindD v = false → ex (.ref C))
def s_need_offset (C : Addr) : Ct := fun ss k ex => ∃ t j v, ss = [.d (kD t j), .d v] ∧ (isIntD v 0 (t + j - 1) = true → k .none) ∧ (isIntD v 0 (t + j - 1) = false → ex (.ref C))
def s_need_border (C : Addr) : Ct := fun ss k ex => ∃ v, ss = [.d v] ∧ (isBorderD v = true → k .none) ∧ (isBorderD v = false → ex (.ref C))
def s_width_of : Ct := fun ss k _ => ∃ t j o p rt, ss = [.d (kD t j), .d (.int o), .d (bD p rt)] ∧ 0 < t + j ∧ k (.int (width t j o p rt))
def s_piece (CK CO CB : Addr) : Ct := fun ss k ex => ∃ kd od bd, ss = [.d kd, .d od, .d bd] ∧ (isKindD kd = false → ex (.ref CK)) ∧
  ∀ t j, kd = kD t j → IsKind t j → (isIntD od 0 (t + j - 1) = false → ex (.ref CO)) ∧ ∀ o, od = .int o → 0 ≤ o → o ≤ t + j - 1 → (isBorderD bd = false → ex (.ref CB)) ∧ ∀ p rt, bd = bD p rt → IsPlace p → k (.int (width t j o p rt))
theorem no_kind {t j : Int} (h : IsKind t j) : ¬ isKindD (kD t j) = false := by
  rw [isKindD_iff.mpr ⟨t, j, rfl, h⟩]; decide
theorem s_piece_ok {CK CO CB : Addr} {t j o p : Int} {rt : Bool} {k : D → Prop} {ex : Value → Prop} (h1 : IsKind t j) (h2 : 0 ≤ o) (h3 : o ≤ t + j - 1) (h4 : IsPlace p) (h : k (.int (width t j o p rt))) :
    s_piece CK CO CB [.d (kD t j), .d (.int o), .d (bD p rt)] k ex := by
  refine ⟨_, _, _, rfl, fun z => absurd z (no_kind h1), ?_⟩
  intro t' j' e _
  cases e
  refine ⟨fun z => ?_, ?_⟩
  · rw [isIntD_iff.mpr ⟨o, rfl, h2, h3⟩] at z; cases z
  · intro o' e _ _
    cases e
    refine ⟨fun z => ?_, ?_⟩
    · rw [isBorderD_iff.mpr ⟨p, rt, rfl, h4⟩] at z; cases z
    · intro p' rt' e _
      injection e with e
      injection e with e1 e
      injection e with e2 _
      cases e1
      have e3 : rt = rt' := by
        have z := congrArg (fun d => match d with | PyData.str s => s == ("right" : Str) | _ => false) e2
        simp only [sideS_right] at z
        exact z
      subst e3
      exact h
end Tp

set_option linter.all false
set_option maxRecDepth 100000
set_option maxHeartbeats 4000000
namespace Tp
open PySem PySem.Spec PyProof.Rows L2 Tl
def s_law_cell_at : Ct := fun ss k _ => ∃ ns i, ss = [.scr ns, .d (.int i)] ∧ 0 ≤ i ∧ ∀ n, k (.int n)
def s_law_draws : Ct := fun ss k _ => ∃ c, ss = [.d (.int c), .d (.int 400), .d (.int 1000)] ∧ ∀ ds, AllInt ds → ds ≠ [] → ds.length ≤ 1000 → k (.list ds)
def s_law_take : Ct := fun ss k _ => ∃ b m, ss = [.bag b, .d (.int m)] ∧ 0 < m ∧ ∀ r, 0 ≤ r → r < m → k (.int r)
def s_law_far_draw : Ct := fun ss k _ => ∃ b m, ss = [.bag b, .d (.int m)] ∧ 0 < m ∧ ∀ r, 0 ≤ r → r < m → k (.int r)
def formula (t j r : Int) (rt : Bool) : Int :=
  if rt = true then (if r < t then t - r else 0)
  else if 1 ≤ r ∧ r ≤ t then r else if r = 0 ∧ j = 0 then t else 0
def s_law_formula : Ct := fun ss k _ => ∃ t j r rt, ss = [.d (kD t j), .d (.int r), .d (.str (sideS rt))] ∧ k (.int (formula t j r rt))
theorem pick2 {d a b : D} (h : d ∈ [a, b]) : d = a ∨ d = b := by simpa using h
theorem pick4 {d a b c e : D} (h : d ∈ [a, b, c, e]) : d = a ∨ d = b ∨ d = c ∨ d = e := by simpa using h
theorem mod_lo (a : Int) {s : Int} (h : 0 < s) : 0 ≤ a % s := Int.emod_nonneg _ (by omega)
theorem mod_hi (a : Int) {s : Int} (h : 0 < s) : a % s < s := Int.emod_lt_of_pos _ h
theorem width_formula (t j o p : Int) (rt : Bool) (ht : 0 < t) (hj : 0 ≤ j) : width t j o p rt = formula t j ((p - o) % (t + j)) rt := by
  have h0 := mod_lo (p - o) (s := t + j) (by omega)
  unfold width formula
  cases rt
  · simp only [Bool.false_eq_true, if_false]
    split
    · rename_i h; rw [h]; simp only [Int.reduceLE, false_and, if_false, true_and]
    · rename_i h
      split
      · rw [if_pos ⟨by omega, by omega⟩]
      · rw [if_neg (by omega), if_neg (by omega)]
  · simp only [if_true]
    split <;> omega
end Tp

set_option linter.all false
set_option maxRecDepth 100000
set_option maxHeartbeats 4000000
namespace Tp
open PySem PySem.Spec PyProof.Rows L2 Tl
/-! plain facts of widths -/
theorem mod_sub_mod (a b s : Int) : (a - b % s) % s = (a - b) % s := by
  rw [Int.emod_def b s, show a - (b - s * (b / s)) = (a - b) + s * (b / s) by omega, Int.add_mul_emod_self_left]
theorem width_of_mod {t j o p o' p' : Int} {rt : Bool} (h : (p' - o') % (t + j) = (p - o) % (t + j)) : width t j o' p' rt = width t j o p rt := by
  unfold width; rw [h]
theorem mul_bd {a b A B : Int} (h0 : 0 ≤ a) (h1 : a ≤ A) (h2 : 0 ≤ b) (h3 : b ≤ B) : 0 ≤ a * b ∧ a * b ≤ A * B :=
  ⟨Int.mul_nonneg h0 h2, Int.le_trans (Int.mul_le_mul_of_nonneg_right h1 h2) (Int.mul_le_mul_of_nonneg_left h3 (by omega))⟩
theorem mod_add_mul (a b s : Int) : (a + s * b) % s = a % s := Int.add_mul_emod_self_left a s b
theorem mod_sub_mul (a b s : Int) : (a - s * b) % s = a % s := by
  rw [show a - s * b = a + s * (-b) by rw [Int.mul_neg]; omega, Int.add_mul_emod_self_left]
/-- a remainder, written out -/
theorem mod_small {x s : Int} (h1 : 0 ≤ x) (h2 : x < s) : x % s = x := Int.emod_eq_of_lt h1 h2
theorem mod_up {x s : Int} (h1 : -s ≤ x) (h2 : x < 0) (hs : 0 < s) : x % s = x + s := by
  have e := Int.add_mul_emod_self_left x s 1
  rw [Int.mul_one] at e
  rw [← e, mod_small (by omega) (by omega)]
theorem mod_down {x s : Int} (h1 : s ≤ x) (h2 : x < s + s) : x % s = x - s := by
  have e := Int.add_mul_emod_self_left x s (-1)
  rw [show x + s * -1 = x - s by omega] at e
  rw [← e, mod_small (by omega) (by omega)]
/-- seen from the other side -/
theorem width_mirror {t j o p : Int} (rt : Bool) (ht : 0 < t) (hj : 0 ≤ j) : width t j ((0 - o - t) % (t + j)) (0 - p) (!rt) = width t j o p rt := by
  have e : (0 - p - (0 - o - t) % (t + j)) % (t + j) = (t - (p - o) % (t + j)) % (t + j) := by
    rw [mod_sub_mod, mod_sub_mod]
    congr 1; omega
  have h0 := mod_lo (p - o) (s := t + j) (by omega)
  have h1 := mod_hi (p - o) (s := t + j) (by omega)
  unfold width
  rw [e]
  generalize (p - o) % (t + j) = r at *
  have c : (t - r) % (t + j) = if t - r < 0 then t - r + (t + j) else if t - r = t + j then 0 else t - r := by
    split
    · exact mod_up (by omega) (by omega) (by omega)
    · split
      · rename_i h; rw [h, Int.emod_self]
      · exact mod_small (by omega) (by omega)
  rw [c]
  cases rt <;> simp only [Bool.not_false, Bool.not_true, Bool.false_eq_true, if_true, if_false] <;> (repeat' split) <;> omega
/-- every remainder once -/
theorem mods_perm (p : Int) (n : Nat) : ((List.range n).map fun i : Nat => (p - (0 + (i : Nat))) % (n : Int)).Perm ((List.range n).map fun i : Nat => (i : Int)) := by
  have inj : ∀ {f : Nat → Int}, (∀ a b, a < n → b < n → f a = f b → a = b) → ((List.range n).map f).Nodup := fun {f} h => by
    unfold List.Nodup
    rw [List.pairwise_map]
    refine (List.nodup_range (n := n)).imp_of_mem fun {a b} ha hb hne e => hne (h a b (List.mem_range.mp ha) (List.mem_range.mp hb) e)
  refine (List.perm_ext_iff_of_nodup (inj fun a b ha hb e => ?_) (inj fun a b ha hb e => by exact_mod_cast e)).mpr fun x => ?_
  · have e2 : ((a : Int) - b) % n = 0 := by
      have := Int.emod_emod_of_dvd
      have q := Int.sub_emod (p - (0 + (b : Nat))) (p - (0 + (a : Nat))) (n : Int)
      rw [← e, Int.sub_self, Int.zero_emod] at q
      rw [← q]; congr 1; omega
    rcases Int.lt_trichotomy (a : Int) b with h | h | h
    · rw [mod_up (by omega) (by omega) (by omega)] at e2; omega
    · omega
    · rw [mod_small (by omega) (by omega)] at e2; omega
  · simp only [List.mem_map, List.mem_range]
    constructor
    · rintro ⟨i, hi, rfl⟩
      have h0 := mod_lo (p - (0 + (i : Nat))) (s := (n : Int)) (by omega)
      have h1 := mod_hi (p - (0 + (i : Nat))) (s := (n : Int)) (by omega)
      exact ⟨((p - (0 + (i : Nat))) % (n : Int)).toNat, by omega, by omega⟩
    · rintro ⟨i, hi, rfl⟩
      have h0 := mod_lo (p - i) (s := (n : Int)) (by omega)
      have h1 := mod_hi (p - i) (s := (n : Int)) (by omega)
      refine ⟨((p - i) % (n : Int)).toNat, by omega, ?_⟩
      rw [Int.toNat_of_nonneg h0, Int.zero_add, mod_sub_mod, show p - (p - (i : Int)) = i by omega, mod_small (by omega) (by omega)]
theorem widths_perm {t j p : Int} {rt : Bool} (ht : 0 < t) (hj : 0 ≤ j) :
    ((List.range (t + j).toNat).map fun i : Nat => width t j (0 + (i : Nat)) p rt).Perm (List.replicate j.toNat 0 ++ (List.range t.toNat).map fun i : Nat => (1 : Int) + (i : Nat)) := by
  have e : ((List.range (t + j).toNat).map fun i : Nat => width t j (0 + (i : Nat)) p rt) = ((List.range (t + j).toNat).map fun i : Nat => (p - (0 + (i : Nat))) % (((t + j).toNat : Nat) : Int)).map fun r => formula t j r rt := by
    rw [List.map_map]
    refine List.map_congr_left fun i _ => ?_
    show width _ _ _ _ _ = formula _ _ _ _
    rw [width_formula _ _ _ _ _ ht hj, Int.toNat_of_nonneg (by omega)]
  rw [e]
  refine ((mods_perm p _).map _).trans ?_
  rw [List.map_map]
  obtain ⟨t', rfl⟩ := Int.eq_ofNat_of_zero_le (show 0 ≤ t by omega)
  obtain ⟨j', rfl⟩ := Int.eq_ofNat_of_zero_le hj
  have en : ((t' : Int) + (j' : Int)).toNat = t' + j' := by omega
  rw [en, Int.toNat_natCast, Int.toNat_natCast]
  have z : ∀ (n : Nat) (f : Nat → Int), (∀ i < n, f i = 0) → (List.range n).map f = List.replicate n 0 := fun n f h => by
    refine List.eq_replicate_iff.mpr ⟨by simp, fun b hb => ?_⟩
    obtain ⟨i, hi, rfl⟩ := List.mem_map.mp hb
    exact h i (List.mem_range.mp hi)
  cases rt with
  | true =>
    rw [List.range_add, List.map_append, List.map_map, z j' _ (fun i hi => by
      simp only [Function.comp_apply]
      unfold formula; rw [if_pos rfl, if_neg (by omega)])]
    refine List.perm_append_comm.trans (List.Perm.append_left _ ?_)
    have er : ((List.range t').map ((fun r => formula (t' : Int) (j' : Int) r true) ∘ fun i : Nat => (i : Int))) = ((List.range t').map fun i : Nat => (1 : Int) + (i : Nat)).reverse := by
      refine List.ext_getElem (by simp) fun i h1 h2 => ?_
      simp only [List.getElem_map, List.getElem_range, List.getElem_reverse, List.length_map, List.length_range, Function.comp]
      simp only [List.length_map, List.length_range] at h1
      unfold formula; rw [if_pos rfl, if_pos (by omega)]; omega
    rw [er]
    exact List.reverse_perm _
  | false =>
    cases j' with
    | zero =>
      obtain ⟨t'', rfl⟩ : ∃ k, t' = k + 1 := ⟨t' - 1, by omega⟩
      rw [List.replicate_zero, List.nil_append, Nat.add_zero, List.range_succ_eq_map, List.map_cons, List.map_map]
      have e2 : ((List.range t'').map (((fun r => formula ((t'' + 1 : Nat) : Int) ((0 : Nat) : Int) r false) ∘ fun i : Nat => (i : Int)) ∘ Nat.succ)) = (List.range t'').map fun i : Nat => (1 : Int) + (i : Nat) := by
        refine List.map_congr_left fun i hi => ?_
        have hi := List.mem_range.mp hi
        simp only [Function.comp_apply]
        unfold formula; rw [if_neg (by decide), if_pos (by omega)]; omega
      rw [e2, show (0 :: List.map Nat.succ (List.range t'')) = List.range (t'' + 1) from List.range_succ_eq_map.symm, List.range_succ, List.map_append]
      refine (List.perm_append_comm (l₁ := [_])).trans (List.Perm.append_left _ ?_)
      simp only [List.map_cons, List.map_nil, Function.comp_apply, Nat.succ_eq_add_one]
      unfold formula
      rw [if_neg (by decide), if_neg (by omega), if_pos (by omega)]
      rw [show ((t'' + 1 : Nat) : Int) = 1 + (t'' : Nat) by omega]
    | succ j'' =>
      rw [show t' + (j'' + 1) = (1 + t') + j'' by omega, List.range_add, List.map_append, List.map_map, z j'' _ (fun i hi => by
        simp only [Function.comp_apply]
        unfold formula; rw [if_neg (by decide), if_neg (by omega), if_neg (by omega)]), List.range_add, List.map_append, List.map_map]
      have e2 : ((List.range t').map (((fun r => formula (t' : Int) ((j'' + 1 : Nat) : Int) r false) ∘ fun i : Nat => (i : Int)) ∘ fun x => 1 + x)) = (List.range t').map fun i : Nat => (1 : Int) + (i : Nat) := by
        refine List.map_congr_left fun i hi => ?_
        have hi := List.mem_range.mp hi
        simp only [Function.comp_apply]
        unfold formula; rw [if_neg (by decide), if_pos (by omega)]; omega
      rw [e2]
      have e3 : (List.range 1).map ((fun r => formula (t' : Int) ((j'' + 1 : Nat) : Int) r false) ∘ fun i : Nat => (i : Int)) = [0] := by
        simp only [List.range_one, List.map_cons, List.map_nil, Function.comp_apply]
        unfold formula; rw [if_neg (by decide), if_neg (by omega), if_neg (by omega)]
      rw [e3, List.append_assoc, List.replicate_succ]
      rw [List.singleton_append, List.cons_append]
      exact List.Perm.cons _ List.perm_append_comm
theorem sorted_same {xs ys : List Int} (h : xs.Perm ys) (h1 : xs.Pairwise (· ≤ ·)) (h2 : ys.Pairwise (· ≤ ·)) : xs = ys :=
  List.Perm.eq_of_pairwise (fun a b _ _ h1 h2 => by omega) h1 h2 h
theorem target_sorted (t j : Nat) : (List.replicate j 0 ++ (List.range t).map fun i : Nat => (1 : Int) + (i : Nat)).Pairwise (· ≤ ·) := by
  refine List.pairwise_append.mpr ⟨?_, ?_, ?_⟩
  · refine List.pairwise_replicate.mpr (.inr (by omega))
  · rw [List.pairwise_map]
    refine List.pairwise_lt_range.imp fun {a b} h => by omega
  · intro a ha b hb
    rw [List.eq_of_mem_replicate ha]
    obtain ⟨i, _, rfl⟩ := List.mem_map.mp hb
    omega
theorem widths_sorted {t j p : Int} {rt : Bool} (ht : 0 < t) (hj : 0 ≤ j) {ms : List Int} (h1 : ms.Perm ((List.range (t + j).toNat).map fun i : Nat => width t j (0 + (i : Nat)) p rt)) (h2 : ms.Pairwise (· ≤ ·)) :
    ms.map PyData.int = List.replicate j.toNat (.int 0) ++ rngD 1 t.toNat := by
  rw [sorted_same (h1.trans (widths_perm ht hj)) h2 (target_sorted _ _), List.map_append, List.map_replicate, List.map_map]
  rfl
theorem target_ints (t j : Nat) : (List.replicate j (PyData.int 0) ++ rngD 1 t) = (List.replicate j 0 ++ (List.range t).map fun i : Nat => (1 : Int) + (i : Nat)).map PyData.int := by
  rw [List.map_append, List.map_replicate, List.map_map]; rfl
theorem target_shaped (t j : Nat) : SeqAt.shaped (.list (List.replicate j (PyData.int 0) ++ rngD 1 t)) = true := by
  rw [target_ints]; exact PySem.W.shaped_ints _
theorem eqv_self {d : D} (h : SeqAt.shaped d = true) : PyData.eqv d d = true := PySem.SeqAt.eqv_refl d (PySem.SeqAt.canLay_of_shaped h)
theorem rngD_mem {lo : Int} {n : Nat} {d : D} (h : d ∈ rngD lo n) : ∃ i : Nat, i < n ∧ d = .int (lo + (i : Nat)) := by
  obtain ⟨i, hi⟩ := List.getElem?_of_mem h
  exact ⟨i, rngD_get hi⟩
theorem rngD_map (lo : Int) (n : Nat) (f : D → D) (g : Int → Int) (h : ∀ i : Nat, f (.int (lo + (i : Nat))) = .int (g (lo + (i : Nat)))) : (rngD lo n).map f = ((List.range n).map fun i : Nat => g (lo + (i : Nat))).map PyData.int := by
  simp only [rngD, List.map_map]
  exact List.map_congr_left fun i _ => h i
theorem df_mk {K : PySem.W.Frag} {h : Heap} {mg : Str → Option Value} {x : Str} {st : Stmt} {ps : List Str} {f : Addr} {oc : Value} {od an : Option Addr} {osl : Array (Option Value)} {kV doc pm cdv ct : Value} (X : K.In h) (G : h.Ns mainGlobals mg)
    (a : PySem.W.nsIn K mainGlobals x = some (some (.ref f))) (l : K.lookup f = some ⟨oc, od, .func (PySem.W.fnOf x x (defArgs st) (defBody st) (defScope st) .none kV doc pm an cdv ct), osl⟩)
    (c : PySem.W.codeIn K cdv x = true) (k : PySem.W.keepIn K (.ref f) = true)
    (b : ∀ (kV doc pm : Value) (an : Option Addr) (cdv ct : Value) (us : List Value), us.length = ps.length → bindArgs (PySem.W.fnOf x x (defArgs st) (defBody st) (defScope st) .none kV doc pm an cdv ct) ⟨us, []⟩ = pure (ps.zip us)) : Df K mg x st ps :=
  ⟨f, _, fun_mk l c k, PySem.W.mg_of X G a, (fun_mk l c k).binds b⟩
theorem cx_no {P : Program} {w : World} {outer : List Env} {H : Hp} {s s' : Shared} {u : Value} : L2N.CX P w outer H s (fun _ _ _ => False) u s' → False := fun ⟨_, _, _, _, _, _, _, _, _, _, _, _, z⟩ => z
end Tp

set_option linter.all false
set_option maxRecDepth 100000
set_option maxHeartbeats 4000000
namespace Tp
open PySem PySem.Spec PyProof.Rows L2 Tl
/-! rows -/
theorem eqv_no {a b : D} (hs : SeqAt.shaped a = true) (e : a = b) (H : PyData.eqv a b = false) : False := by
  subst e; rw [eqv_self hs] at H; cases H
/-- the width at a border given as data -/
def bw (t j o : Int) (d : D) : Int := match d with | .tuple [.int p, .str z] => width t j o p (z == ("right" : Str)) | _ => 0
theorem bw_bD (t j o p : Int) (rt : Bool) : bw t j o (bD p rt) = width t j o p rt := by
  show width t j o p (sideS rt == ("right" : Str)) = _
  rw [sideS_right]
def isRowD (t j : Int) (d : D) : Bool := match d with
  | .tuple [a, b] => (match a, b with | .int s, .int e => decide (-1000000000000 ≤ s) && decide (s ≤ 1000000000000) && (decide (-1000000000000 ≤ e) && decide (e ≤ 1000000000000)) && decide (2 * (t + j) ≤ e - s) | _, _ => false)
  | _ => false
structure IsRow (t j s e : Int) : Prop where
  s1 : -1000000000000 ≤ s
  s2 : s ≤ 1000000000000
  e1 : -1000000000000 ≤ e
  e2 : e ≤ 1000000000000
  ln : 2 * (t + j) ≤ e - s
abbrev rD (s e : Int) : D := .tuple [.int s, .int e]
theorem isRowD_iff {t j : Int} {d : D} : isRowD t j d = true ↔ ∃ s e, d = rD s e ∧ IsRow t j s e := by
  constructor
  · intro h
    unfold isRowD at h
    split at h
    · split at h
      · rename_i s e
        simp only [Bool.and_eq_true, decide_eq_true_eq] at h
        exact ⟨s, e, rfl, h.1.1.1, h.1.1.2, h.1.2.1, h.1.2.2, h.2⟩
      · cases h
    · cases h
  · rintro ⟨s, e, rfl, h⟩
    simp only [isRowD, Bool.and_eq_true, decide_eq_true_eq]
    exact ⟨⟨⟨h.s1, h.s2⟩, h.e1, h.e2⟩, h.ln⟩
theorem rowD_no {t j : Int} {v : D} (h : isPairD v = false) : PyData.bool false = .bool (isRowD t j v) := by
  cases q : isRowD t j v with
  | false => rfl
  | true =>
    obtain ⟨s, e, rfl, _⟩ := isRowD_iff.mp q
    cases h
theorem rowD_no2 {t j : Int} {a b : D} (h : ([isIntD a (-1000000000000) 1000000000000, isIntD b (-1000000000000) 1000000000000]).all id = false) : PyData.bool false = .bool (isRowD t j (.tuple [a, b])) := by
  cases q : isRowD t j (.tuple [a, b]) with
  | false => rfl
  | true =>
    obtain ⟨s, e, e1, hr⟩ := isRowD_iff.mp q
    cases e1
    rw [isIntD_iff.mpr ⟨s, rfl, hr.s1, hr.s2⟩, isIntD_iff.mpr ⟨e, rfl, hr.e1, hr.e2⟩] at h
    cases h
theorem rowD_yes {a b : D} (h : ([isIntD a (-1000000000000) 1000000000000, isIntD b (-1000000000000) 1000000000000]).all id = true) : ∃ s e, a = .int s ∧ b = .int e ∧ (-1000000000000 ≤ s ∧ s ≤ 1000000000000) ∧ (-1000000000000 ≤ e ∧ e ≤ 1000000000000) := by
  simp only [List.all_cons, List.all_nil, id, Bool.and_true, Bool.and_eq_true] at h
  obtain ⟨s, rfl, h1⟩ := isIntD_iff.mp h.1
  obtain ⟨e, rfl, h2⟩ := isIntD_iff.mp h.2
  exact ⟨s, e, rfl, rfl, h1, h2⟩
def whl (t j o s e : Int) : Int := (e - (s + (o - s) % (t + j)) + j) / (t + j)
abbrev rpD (t j o s e : Int) : D := .tuple [.int (width t j o s true % t), .int (whl t j o s e), .int (width t j o e false % t)]
def s_row_fits : Ct := fun ss k _ => ∃ t j v, ss = [.d (kD t j), .d v] ∧ k (.bool (isRowD t j v))
def s_need_row (C : Addr) : Ct := fun ss k ex => ∃ t j v, ss = [.d (kD t j), .d v] ∧ (isRowD t j v = true → k .none) ∧ (isRowD t j v = false → ex (.ref C))
def s_pieces_of : Ct := fun ss k _ => ∃ t j o s e, ss = [.d (kD t j), .d (.int o), .d (rD s e)] ∧ IsKind t j ∧ k (rpD t j o s e)
def s_row_pieces (CK CO CR : Addr) : Ct := fun ss k ex => ∃ kd od rd, ss = [.d kd, .d od, .d rd] ∧ (isKindD kd = false → ex (.ref CK)) ∧
  ∀ t j, kd = kD t j → IsKind t j → (isIntD od 0 (t + j - 1) = false → ex (.ref CO)) ∧ ∀ o, od = .int o → 0 ≤ o → o ≤ t + j - 1 → (isRowD t j rd = false → ex (.ref CR)) ∧ ∀ s e, rd = rD s e → IsRow t j s e → k (rpD t j o s e)
theorem no_int {o lo hi : Int} (h1 : lo ≤ o) (h2 : o ≤ hi) : ¬ isIntD (.int o) lo hi = false := by
  rw [isIntD_iff.mpr ⟨o, rfl, h1, h2⟩]; decide
theorem no_row {t j s e : Int} (h : IsRow t j s e) : ¬ isRowD t j (rD s e) = false := by
  rw [isRowD_iff.mpr ⟨s, e, rfl, h⟩]; decide
theorem s_row_pieces_ok {CK CO CR : Addr} {t j o s e : Int} {k : D → Prop} {ex : Value → Prop} (h1 : IsKind t j) (h2 : 0 ≤ o) (h3 : o ≤ t + j - 1) (h4 : IsRow t j s e) (h : k (rpD t j o s e)) :
    s_row_pieces CK CO CR [.d (kD t j), .d (.int o), .d (rD s e)] k ex := by
  refine ⟨_, _, _, rfl, fun z => absurd z (no_kind h1), ?_⟩
  intro t' j' e _
  cases e
  refine ⟨fun z => absurd z (no_int h2 h3), ?_⟩
  intro o' e _ _
  cases e
  refine ⟨fun z => absurd z (no_row h4), ?_⟩
  intro s' e' e _
  cases e
  exact h
theorem width_bd {t j o p : Int} {rt : Bool} (ht : 0 < t) (hj : 0 ≤ j) : 0 ≤ width t j o p rt ∧ width t j o p rt ≤ t := by
  have h0 := mod_lo (p - o) (s := t + j) (by omega)
  unfold width
  (repeat' split) <;> omega
theorem cutmod1 {w t : Int} (h0 : 0 ≤ w) (h : w < t) : w = w % t := (mod_small h0 h).symm
theorem cutmod2 {w t : Int} (h0 : w ≤ t) (h : ¬ w < t) : 0 = w % t := by
  rw [show w = t by omega, Int.emod_self]
/-- a remainder and its quotient -/
theorem mod_q (x s : Int) : x = x % s + s * (x / s) := (Int.emod_add_mul_ediv x s).symm
theorem div_of {x s r q : Int} (h : x = r + s * q) (h0 : 0 ≤ r) (h1 : r < s) : x / s = q := by
  rw [h, Int.add_mul_ediv_left _ _ (by omega), Int.ediv_eq_zero_of_lt h0 h1]; omega
/-- whl by its parts -/
theorem whl_eq {t j o s e : Int} (ht : 0 < t) (hj : 0 ≤ j) : whl t j o s e = 1 + (o - s) / (t + j) + (e - o - t) / (t + j) := by
  unfold whl
  have h1 := mod_q (o - s) (t + j)
  have h2 := mod_q (e - o - t) (t + j)
  have b2 := mod_lo (e - o - t) (s := t + j) (by omega)
  have b3 := mod_hi (e - o - t) (s := t + j) (by omega)
  refine div_of (r := (e - o - t) % (t + j)) ?_ b2 b3
  rw [Int.mul_add, Int.mul_add, Int.mul_one]
  omega
theorem whl_step {t j o s e : Int} (ht : 0 < t) (hj : 0 ≤ j) : whl t j o s (e + (t + j)) = whl t j o s e + 1 := by
  rw [whl_eq ht hj, whl_eq ht hj, show e + (t + j) - o - t = (e - o - t) + (t + j) * 1 by omega, Int.add_mul_ediv_left _ _ (by omega)]
  omega
theorem whl_moved {t j o s e o' d : Int} (ht : 0 < t) (hj : 0 ≤ j) (ho : o' = (o + d) % (t + j)) : whl t j o' (s + d) (e + d) = whl t j o s e := by
  subst ho
  rw [whl_eq ht hj, whl_eq ht hj]
  have h := mod_q (o + d) (t + j)
  generalize (o + d) / (t + j) = q at *
  generalize (o + d) % (t + j) = o' at *
  rw [show o' - (s + d) = (o - s) + (t + j) * (-q) by rw [Int.mul_neg]; omega, show e + d - o' - t = (e - o - t) + (t + j) * q by omega, Int.add_mul_ediv_left _ _ (by omega), Int.add_mul_ediv_left _ _ (by omega)]
  omega
theorem whl_mirror {t j o s e : Int} (ht : 0 < t) (hj : 0 ≤ j) : whl t j ((0 - o - t) % (t + j)) (0 - e) (0 - s) = whl t j o s e := by
  rw [whl_eq ht hj, whl_eq ht hj]
  have h := mod_q (0 - o - t) (t + j)
  generalize (0 - o - t) / (t + j) = q at *
  generalize (0 - o - t) % (t + j) = o' at *
  rw [show o' - (0 - e) = (e - o - t) + (t + j) * (-q) by rw [Int.mul_neg]; omega, show 0 - s - o' - t = (o - s) + (t + j) * q by omega, Int.add_mul_ediv_left _ _ (by omega), Int.add_mul_ediv_left _ _ (by omega)]
  omega
/-- the first piece and what stands before the first whole tile -/
theorem first_eq {t j o s : Int} (ht : 0 < t) (hj : 0 ≤ j) : ∃ x, (o - s) % (t + j) = width t j o s true % t + x ∧ 0 ≤ x ∧ x ≤ j ∧ (0 < width t j o s true % t → x = j) ∧ 0 ≤ width t j o s true % t := by
  have h0 := mod_lo (s - o) (s := t + j) (by omega)
  have h1 := mod_hi (s - o) (s := t + j) (by omega)
  have e : (o - s) % (t + j) = (0 - (s - o) % (t + j)) % (t + j) := by rw [mod_sub_mod]; congr 1; omega
  rw [e]
  unfold width
  rw [if_pos rfl]
  generalize (s - o) % (t + j) = r at *
  by_cases c0 : r = 0
  · subst c0
    rw [show max 0 (t - 0) = t by omega, Int.emod_self, show (0 - 0 : Int) = 0 by omega, Int.zero_emod]
    exact ⟨0, by omega, by omega, by omega, by omega, by omega⟩
  · rw [mod_up (x := 0 - r) (by omega) (by omega) (by omega)]
    by_cases c : r < t
    · rw [show max 0 (t - r) = t - r by omega, mod_small (x := t - r) (by omega) (by omega)]
      exact ⟨j, by omega, by omega, by omega, by omega, by omega⟩
    · rw [show max 0 (t - r) = 0 by omega, Int.zero_emod]
      exact ⟨0 - r + (t + j), by omega, by omega, by omega, by omega, by omega⟩
theorem last_eq {t j o e : Int} (ht : 0 < t) (hj : 0 ≤ j) : ∃ x, (e - o - t) % (t + j) = width t j o e false % t + x ∧ 0 ≤ x ∧ x ≤ j ∧ (0 < width t j o e false % t → x = j) ∧ 0 ≤ width t j o e false % t := by
  have h0 := mod_lo (e - o) (s := t + j) (by omega)
  have h1 := mod_hi (e - o) (s := t + j) (by omega)
  have e' : (e - o - t) % (t + j) = ((e - o) % (t + j) - t) % (t + j) := by
    have := mod_q (e - o) (t + j)
    rw [show e - o - t = ((e - o) % (t + j) - t) + (t + j) * ((e - o) / (t + j)) by omega, mod_add_mul]
  rw [e']
  unfold width
  rw [if_neg (by decide)]
  generalize (e - o) % (t + j) = r at *
  by_cases c0 : r = 0
  · subst c0
    rw [if_pos rfl]
    by_cases cj : j = 0
    · subst cj
      rw [if_pos rfl, Int.emod_self, show (0 : Int) - t = 0 + (t + 0) * (-1) by omega, mod_add_mul, Int.zero_emod]
      exact ⟨0, by omega, by omega, by omega, by omega, by omega⟩
    · rw [if_neg cj, Int.zero_emod, mod_up (x := 0 - t) (by omega) (by omega) (by omega)]
      exact ⟨j, by omega, by omega, by omega, by omega, by omega⟩
  · rw [if_neg c0]
    by_cases c : r < t
    · rw [if_pos (by omega), mod_small (x := r) (by omega) (by omega), mod_up (x := r - t) (by omega) (by omega) (by omega)]
      exact ⟨j, by omega, by omega, by omega, by omega, by omega⟩
    · rw [mod_small (x := r - t) (by omega) (by omega)]
      by_cases c2 : r = t
      · subst c2
        rw [if_pos (by omega), Int.emod_self]
        exact ⟨0, by omega, by omega, by omega, by omega, by omega⟩
      · rw [if_neg (by omega), Int.zero_emod]
        exact ⟨r - t, by omega, by omega, by omega, by omega, by omega⟩
/-- joints between the tiles -/
theorem joints_bd {t j o s e : Int} (ht : 0 < t) (hj : 0 ≤ j) {many : Int} (hm : many = whl t j o s e + (if decide (0 < width t j o s true % t) = true then 1 else 0) + (if decide (0 < width t j o e false % t) = true then 1 else 0)) :
    (many - 1) * j ≤ e - s - (width t j o s true % t + width t j o e false % t + whl t j o s e * t) ∧ e - s - (width t j o s true % t + width t j o e false % t + whl t j o s e * t) ≤ (many + 1) * j := by
  have hw := whl_eq (o := o) (s := s) (e := e) ht hj
  obtain ⟨x, hx, x0, x1, x2, x3⟩ := first_eq (o := o) (s := s) ht hj
  obtain ⟨y, hy, y0, y1, y2, y3⟩ := last_eq (o := o) (e := e) ht hj
  have h1 := mod_q (o - s) (t + j)
  have h2 := mod_q (e - o - t) (t + j)
  generalize (o - s) / (t + j) = a at *
  generalize (e - o - t) / (t + j) = b at *
  generalize width t j o s true % t = f at *
  generalize width t j o e false % t = l at *
  generalize whl t j o s e = W at *
  subst hm
  have e1 : (t + j) * a + (t + j) * b = W * t + W * j - t - j := by
    rw [← Int.mul_add, show a + b = W - 1 by omega, Int.mul_sub, Int.mul_one, Int.add_mul, Int.mul_comm t W, Int.mul_comm j W]; omega
  by_cases cf : 0 < f <;> by_cases cl : 0 < l <;> simp only [cf, cl, decide_true, decide_false, if_true, if_false, Bool.false_eq_true] <;>
    (have := x2; have := y2; constructor <;> (simp only [Int.add_mul, Int.sub_mul, Int.one_mul, Int.zero_mul]; omega))
theorem rp_step {t j o s e : Int} (ht : 0 < t) (hj : 0 ≤ j) : rpD t j o s (e + (t + j)) = .tuple [.int (width t j o s true % t), .int (whl t j o s e + 1), .int (width t j o e false % t)] := by
  unfold rpD
  rw [whl_step ht hj, width_of_mod (o := o) (p := e) (o' := o) (p' := e + (t + j)) (by rw [show e + (t + j) - o = (e - o) + (t + j) * 1 by omega, mod_add_mul])]
theorem rp_moved {t j o s e : Int} (ht : 0 < t) (hj : 0 ≤ j) (d : Int) : rpD t j ((o + d) % (t + j)) (s + d) (e + d) = rpD t j o s e := by
  unfold rpD
  rw [whl_moved ht hj rfl, width_of_mod (o := o) (p := e) (p' := e + d) (by rw [mod_sub_mod]; congr 1; omega), width_of_mod (o := o) (p := s) (p' := s + d) (by rw [mod_sub_mod]; congr 1; omega)]
theorem rp_mirror {t j o s e : Int} (ht : 0 < t) (hj : 0 ≤ j) : rpD t j ((0 - o - t) % (t + j)) (0 - e) (0 - s) = .tuple [.int (width t j o e false % t), .int (whl t j o s e), .int (width t j o s true % t)] := by
  unfold rpD
  have h1 := width_mirror (t := t) (j := j) (o := o) (p := e) false ht hj
  have h2 := width_mirror (t := t) (j := j) (o := o) (p := s) true ht hj
  rw [Bool.not_false] at h1
  rw [Bool.not_true] at h2
  rw [whl_mirror ht hj, h1, h2]
end Tp

set_option linter.all false
set_option maxRecDepth 100000
set_option maxHeartbeats 4000000
namespace Tp
open PySem PySem.Spec PyProof.Rows L2 Tl
/-! borders -/
def isBordersD (d : D) : Bool := match d with
  | .tuple ds => decide (1 ≤ (ds.length : Int)) && decide ((ds.length : Int) ≤ 12) && (ds.map isBorderD).all id
  | _ => false
/-- all of them are borders -/
def AllB (ds : List D) : Prop := ∀ d ∈ ds, ∃ p rt, d = bD p rt ∧ IsPlace p
structure IsBorders (ds : List D) : Prop where
  lo : 1 ≤ ds.length
  hi : ds.length ≤ 12
  all : AllB ds
theorem allB_iff {ds : List D} : (ds.map isBorderD).all id = true ↔ AllB ds := by
  rw [List.all_map, List.all_eq_true]
  exact ⟨fun h d hd => isBorderD_iff.mp (h d hd), fun h d hd => isBorderD_iff.mpr (h d hd)⟩
theorem isBordersD_iff {d : D} : isBordersD d = true ↔ ∃ ds, d = .tuple ds ∧ IsBorders ds := by
  constructor
  · intro h
    unfold isBordersD at h
    split at h
    · rename_i ds
      simp only [Bool.and_eq_true, decide_eq_true_eq] at h
      exact ⟨ds, rfl, by omega, by omega, allB_iff.mp h.2⟩
    · cases h
  · rintro ⟨ds, rfl, h⟩
    have h1 := h.lo; have h2 := h.hi
    simp only [isBordersD, Bool.and_eq_true, decide_eq_true_eq]
    exact ⟨⟨by omega, by omega⟩, allB_iff.mpr h.all⟩
theorem no_borders {ds : List D} (h : IsBorders ds) : ¬ isBordersD (.tuple ds) = false := by
  rw [isBordersD_iff.mpr ⟨ds, rfl, h⟩]; decide
theorem AllB.app {xs ys : List D} (h : AllB xs) (h2 : AllB ys) : AllB (xs ++ ys) := fun d hd => (List.mem_append.mp hd).elim (h d) (h2 d)
theorem AllB.nil : AllB [] := fun _ h => nomatch h
theorem AllB.one {p : Int} {rt : Bool} (h : IsPlace p) : AllB [bD p rt] := fun d hd => ⟨p, rt, List.mem_singleton.mp hd, h⟩
/-- not cut: as wide as a tile -/
def wz (t j o : Int) (d : D) : Int := if bw t j o d = 0 then t else bw t j o d
def nar (t j o : Int) : List D → Int
  | [] => t
  | d :: r => min (wz t j o d) (nar t j o r)
theorem nar_le (t j o : Int) : ∀ ds : List D, nar t j o ds ≤ t
  | [] => Int.le_refl _
  | d :: r => by have := nar_le t j o r; unfold nar; omega
theorem le_nar {t j o l : Int} (h : l ≤ t) : ∀ {ds : List D}, l ≤ nar t j o ds ↔ ∀ d ∈ ds, l ≤ wz t j o d
  | [] => ⟨fun _ _ h => (nomatch h), fun _ => h⟩
  | d :: r => by
    have ih := le_nar (t := t) (j := j) (o := o) h (ds := r)
    unfold nar
    constructor
    · intro q d' hd
      rcases List.mem_cons.mp hd with e | hd
      · rw [e]; omega
      · exact ih.mp (by omega) d' hd
    · intro q
      have q1 := q d List.mem_cons_self
      have q2 := ih.mpr fun d' hd => q d' (List.mem_cons_of_mem _ hd)
      omega
theorem nar_min {t j o m : Int} {ds : List D} (h1 : m ∈ ds.map (wz t j o) ++ [t]) (h2 : ∀ y ∈ ds.map (wz t j o) ++ [t], m ≤ y) : m = nar t j o ds := by
  have a : m ≤ nar t j o ds := (le_nar (h2 t (by simp))).mpr fun d hd => h2 _ (List.mem_append_left _ (List.mem_map_of_mem hd))
  have b : nar t j o ds ≤ m := by
    rcases List.mem_append.mp h1 with h | h
    · obtain ⟨d, hd, e⟩ := List.mem_map.mp h
      rw [← e]
      exact (le_nar (nar_le t j o ds)).mp (Int.le_refl _) d hd
    · rw [List.mem_singleton.mp h]; exact nar_le _ _ _ _
  omega
/-- the narrowest depends on the rests alone -/
theorem wz_bD (t j o p : Int) (rt : Bool) : wz t j o (bD p rt) = if width t j o p rt = 0 then t else width t j o p rt := by
  unfold wz; rw [bw_bD]
theorem wz_pos {t j o : Int} {p : Int} {rt : Bool} (ht : 0 < t) (hj : 0 ≤ j) : 0 < wz t j o (bD p rt) ∧ wz t j o (bD p rt) ≤ t := by
  rw [wz_bD]
  have := width_bd (t := t) (j := j) (o := o) (p := p) (rt := rt) ht hj
  split <;> omega
theorem nar_pos {t j o : Int} (ht : 0 < t) (hj : 0 ≤ j) {ds : List D} (h : AllB ds) : 0 < nar t j o ds := by
  have : 1 ≤ nar t j o ds := (le_nar (by omega)).mpr fun d hd => by
    obtain ⟨p, rt, rfl, _⟩ := h d hd
    have := (wz_pos (j := j) (o := o) (p := p) (rt := rt) ht hj).1
    omega
  omega
def good (t j : Int) (ds : List D) (l : Int) : List Int := ((List.range (t + j).toNat).map fun i : Nat => (i : Int)).filter fun o => decide (l ≤ nar t j o ds)
theorem mem_good {t j : Int} {ds : List D} {l o : Int} : o ∈ good t j ds l ↔ (0 ≤ o ∧ o < t + j) ∧ l ≤ nar t j o ds := by
  unfold good
  rw [List.mem_filter, List.mem_map, decide_eq_true_eq]
  refine and_congr_left fun _ => ⟨?_, fun ⟨h1, h2⟩ => ⟨o.toNat, List.mem_range.mpr (by omega), by omega⟩⟩
  rintro ⟨i, hi, rfl⟩
  have := List.mem_range.mp hi
  omega
theorem good_sorted (t j : Int) (ds : List D) (l : Int) : (good t j ds l).Pairwise (· < ·) := by
  refine List.Pairwise.filter _ ?_
  rw [List.pairwise_map]
  exact List.pairwise_lt_range.imp fun {a b} h => by omega
theorem sorted_ext : ∀ {xs ys : List Int}, xs.Pairwise (· < ·) → ys.Pairwise (· < ·) → (∀ o, o ∈ xs ↔ o ∈ ys) → xs = ys := fun {xs ys} h1 h2 h => by
  have nd : ∀ {l : List Int}, l.Pairwise (· < ·) → l.Nodup := fun h => h.imp fun {a b} q e => by omega
  exact sorted_same ((List.perm_ext_iff_of_nodup (nd h1) (nd h2)).mpr h) (h1.imp fun {a b} q => by omega) (h2.imp fun {a b} q => by omega)
theorem good_ext {t j t' j' : Int} {ds ds' : List D} {l l' : Int} (h : t + j = t' + j') (q : ∀ o, 0 ≤ o → o < t + j → (l ≤ nar t j o ds ↔ l' ≤ nar t' j' o ds')) : good t j ds l = good t' j' ds' l' :=
  sorted_ext (good_sorted _ _ _ _) (good_sorted _ _ _ _) fun o => by
    rw [mem_good, mem_good, h]
    exact and_congr_right fun ⟨h1, h2⟩ => q o h1 (by omega)
/-- contracts -/
def s_need_borders (C : Addr) : Ct := fun ss k ex => ∃ v, ss = [.d v] ∧ (isBordersD v = true → k .none) ∧ (isBordersD v = false → ex (.ref C))
def s_need_number (C : Addr) : Ct := fun ss k ex => ∃ v lo hi, ss = [.d v, .d (.int lo), .d (.int hi)] ∧ (isIntD v lo hi = true → k .none) ∧ (isIntD v lo hi = false → ex (.ref C))
def s_narrowest : Ct := fun ss k _ => ∃ t j o ds, ss = [.d (kD t j), .d (.int o), .d (.tuple ds)] ∧ IsKind t j ∧ AllB ds ∧ ds.length ≤ 1000 ∧ k (.int (nar t j o ds))
def s_good_of : Ct := fun ss k _ => ∃ t j ds l, ss = [.d (kD t j), .d (.tuple ds), .d (.int l)] ∧ IsKind t j ∧ AllB ds ∧ ds.length ≤ 1000 ∧ k (.list ((good t j ds l).map .int))
def widest (t j : Int) (ds : List D) : Int := ((List.range (t + j).toNat).map fun i : Nat => nar t j (i : Int) ds).foldl max 0
def s_widest_of : Ct := fun ss k _ => ∃ t j ds, ss = [.d (kD t j), .d (.tuple ds)] ∧ IsKind t j ∧ AllB ds ∧ ds.length ≤ 1000 ∧ k (.int (widest t j ds))
def s_kb (CK CB : Addr) (r : Int → Int → List D → D) : Ct := fun ss k ex => ∃ kd bd, ss = [.d kd, .d bd] ∧ (isKindD kd = false → ex (.ref CK)) ∧
  ∀ t j, kd = kD t j → IsKind t j → (isBordersD bd = false → ex (.ref CB)) ∧ ∀ ds, bd = .tuple ds → IsBorders ds → k (r t j ds)
def s_kbl (CK CB CN : Addr) (r : Int → Int → List D → Int → D) : Ct := fun ss k ex => ∃ kd bd ld, ss = [.d kd, .d bd, .d ld] ∧ (isKindD kd = false → ex (.ref CK)) ∧
  ∀ t j, kd = kD t j → IsKind t j → (isBordersD bd = false → ex (.ref CB)) ∧ ∀ ds, bd = .tuple ds → IsBorders ds → (isIntD ld 1 t = false → ex (.ref CN)) ∧ ∀ l, ld = .int l → 1 ≤ l → l ≤ t → k (r t j ds l)
theorem s_kb_ok {CK CB : Addr} {r : Int → Int → List D → D} {t j : Int} {ds : List D} {k : D → Prop} {ex : Value → Prop} (h1 : IsKind t j) (h2 : IsBorders ds) (h : k (r t j ds)) : s_kb CK CB r [.d (kD t j), .d (.tuple ds)] k ex := by
  refine ⟨_, _, rfl, fun z => absurd z (no_kind h1), ?_⟩
  intro t' j' e _
  cases e
  refine ⟨fun z => absurd z (no_borders h2), ?_⟩
  intro ds' e _
  cases e
  exact h
theorem s_kbl_ok {CK CB CN : Addr} {r : Int → Int → List D → Int → D} {t j l : Int} {ds : List D} {k : D → Prop} {ex : Value → Prop} (h1 : IsKind t j) (h2 : IsBorders ds) (h3 : 1 ≤ l) (h4 : l ≤ t) (h : k (r t j ds l)) :
    s_kbl CK CB CN r [.d (kD t j), .d (.tuple ds), .d (.int l)] k ex := by
  refine ⟨_, _, _, rfl, fun z => absurd z (no_kind h1), ?_⟩
  intro t' j' e _
  cases e
  refine ⟨fun z => absurd z (no_borders h2), ?_⟩
  intro ds' e _
  cases e
  refine ⟨fun z => absurd z (no_int h3 h4), ?_⟩
  intro l' e _ _
  cases e
  exact h
abbrev intsD (ns : List Int) : D := .list (ns.map PyData.int)
abbrev s_good_offsets (CK CB CN : Addr) : Ct := s_kbl CK CB CN fun t j ds l => intsD (good t j ds l)
abbrev s_count_good (CK CB CN : Addr) : Ct := s_kbl CK CB CN fun t j ds l => .int (good t j ds l).length
abbrev s_widest_least (CK CB : Addr) : Ct := s_kb CK CB fun t j ds => .int (widest t j ds)
abbrev s_best_offsets (CK CB : Addr) : Ct := s_kb CK CB fun t j ds => intsD (good t j ds (widest t j ds))
abbrev s_uncut_offsets (CK CB : Addr) : Ct := s_kb CK CB fun t j ds => intsD (good t j ds t)
theorem foldl_max_ge : ∀ (ns : List Int) (a : Int), a ≤ ns.foldl max a ∧ ∀ y ∈ ns, y ≤ ns.foldl max a
  | [], a => ⟨Int.le_refl _, fun _ h => nomatch h⟩
  | n :: r, a => by
    obtain ⟨h1, h2⟩ := foldl_max_ge r (max a n)
    refine ⟨by rw [List.foldl_cons]; omega, fun y hy => ?_⟩
    rw [List.foldl_cons]
    rcases List.mem_cons.mp hy with e | hy
    · rw [e]; omega
    · exact h2 y hy
theorem foldl_max_le : ∀ (ns : List Int) (a m : Int), a ≤ m → (∀ y ∈ ns, y ≤ m) → ns.foldl max a ≤ m
  | [], a, m, h, _ => h
  | n :: r, a, m, h, q => by
    rw [List.foldl_cons]
    exact foldl_max_le r _ m (by have := q n List.mem_cons_self; omega) fun y hy => q y (List.mem_cons_of_mem _ hy)
theorem max_is {ns : List Int} {m : Int} (h0 : 0 ≤ m) (h1 : m ∈ ns) (h2 : ∀ y ∈ ns, y ≤ m) : m = ns.foldl max 0 := by
  have a := (foldl_max_ge ns 0).2 m h1
  have b := foldl_max_le ns 0 m h0 h2
  omega
theorem widest_is {t j m : Int} {ds : List D} (ht : 0 < t) (hj : 0 ≤ j) (hb : AllB ds) (h1 : m ∈ (List.range (t + j).toNat).map fun i : Nat => nar t j (0 + (i : Int)) ds) (h2 : ∀ y ∈ (List.range (t + j).toNat).map fun i : Nat => nar t j (0 + (i : Int)) ds, y ≤ m) : m = widest t j ds := by
  simp only [Int.zero_add] at h1 h2
  refine max_is ?_ h1 h2
  obtain ⟨i, _, rfl⟩ := List.mem_map.mp h1
  have := nar_pos (o := (i : Int)) ht hj hb
  omega
theorem le_widest {t j : Int} {ds : List D} {l : Int} (hl : 1 ≤ l) : l ≤ widest t j ds ↔ good t j ds l ≠ [] := by
  unfold widest
  constructor
  · intro h e
    have : ((List.range (t + j).toNat).map fun i : Nat => nar t j (i : Int) ds).foldl max 0 ≤ l - 1 := foldl_max_le _ _ _ (by omega) fun y hy => by
      obtain ⟨i, hi, rfl⟩ := List.mem_map.mp hy
      have hi := List.mem_range.mp hi
      have q : ¬ (i : Int) ∈ good t j ds l := by rw [e]; exact List.not_mem_nil
      rw [mem_good] at q
      have : ¬ l ≤ nar t j i ds := fun z => q ⟨⟨by omega, by omega⟩, z⟩
      omega
    omega
  · intro h
    obtain ⟨o, ho⟩ := List.exists_mem_of_ne_nil _ h
    obtain ⟨⟨h1, h2⟩, h3⟩ := mem_good.mp ho
    have := (foldl_max_ge ((List.range (t + j).toNat).map fun i : Nat => nar t j (i : Int) ds) 0).2 (nar t j o ds) (List.mem_map.mpr ⟨o.toNat, List.mem_range.mpr (by omega), by rw [show ((o.toNat : Nat) : Int) = o by omega]⟩)
    omega
theorem widest_le {t j : Int} {ds : List D} (ht : 0 ≤ t) : widest t j ds ≤ t := foldl_max_le _ _ _ ht fun y hy => by
  obtain ⟨i, _, rfl⟩ := List.mem_map.mp hy
  exact nar_le _ _ _ _
theorem widest_pos {t j : Int} {ds : List D} (ht : 0 < t) (hj : 0 ≤ j) (hb : AllB ds) : 1 ≤ widest t j ds := (le_widest (Int.le_refl 1)).mpr fun e => by
  have q : (0 : Int) ∈ good t j ds 1 := mem_good.mpr ⟨⟨by omega, by omega⟩, by have := nar_pos (o := 0) ht hj hb; omega⟩
  rw [e] at q; exact nomatch q
theorem ints_shaped (ns : List Int) : SeqAt.shaped (intsD ns) = true := PySem.W.shaped_ints ns
theorem eqv_ints (xs ys : List Int) : PyData.eqv (intsD xs) (intsD ys) = decide (xs = ys) := by
  by_cases h : xs = ys
  · subst h; rw [eqv_self (ints_shaped _)]; simp
  · rw [decide_eq_false h]
    have q : ∀ xs ys : List Int, PyData.eqvAll (xs.map PyData.int) (ys.map PyData.int) = decide (xs = ys) := by
      intro xs
      induction xs with
      | nil => intro ys; cases ys <;> simp [PyData.eqvAll]
      | cons x r ih =>
        intro ys
        cases ys with
        | nil => simp [PyData.eqvAll]
        | cons y r' =>
          simp only [List.map_cons, PyData.eqvAll, ih, eqv_int]
          by_cases e1 : x = y <;> by_cases e2 : r = r' <;> simp [e1, e2]
    show PyData.eqvAll _ _ = false
    rw [q, decide_eq_false h]
theorem ints_nil_shaped : SeqAt.shaped (.list []) = true := PySem.W.shaped_ints []
theorem good_list (t j : Int) (ds : List D) (l : Int) : PyData.list (((rngD 0 (t + j).toNat).filter fun d => match d with | .int o => decide (l ≤ nar t j o ds) | _ => false).map fun d => d) = intsD (good t j ds l) := by
  unfold good intsD rngD
  rw [List.map_id', List.filter_map, List.filter_map, List.map_map]
  simp only [Int.zero_add]
  rfl
end Tp

set_option linter.all false
set_option maxRecDepth 100000
set_option maxHeartbeats 4000000
namespace Tp
open PySem PySem.Spec PyProof.Rows L2 Tl
/-! shifts -/
theorem sorted_img {xs ys ms : List Int} {f : Int → Int} (h1 : xs.Pairwise (· < ·)) (h2 : ys.Pairwise (· < ·)) (hin : ∀ o ∈ xs, f o ∈ ys) (inj : ∀ a ∈ xs, ∀ b ∈ xs, f a = f b → a = b) (sur : ∀ y ∈ ys, ∃ o ∈ xs, f o = y)
    (hp : ms.Perm (xs.map f)) (hs : ms.Pairwise (· ≤ ·)) : ms = ys := by
  have nd : ∀ {l : List Int}, l.Pairwise (· < ·) → l.Nodup := fun h => h.imp fun {a b} q e => by omega
  refine sorted_same (hp.trans ((List.perm_ext_iff_of_nodup ?_ (nd h2)).mpr fun y => ?_)) hs (h2.imp fun {a b} q => by omega)
  · unfold List.Nodup
    rw [List.pairwise_map]
    exact (nd h1).imp_of_mem fun {a b} ha hb hne e => hne (inj a ha b hb e)
  · constructor
    · intro h
      obtain ⟨o, ho, rfl⟩ := List.mem_map.mp h
      exact hin o ho
    · intro h
      obtain ⟨o, ho, e⟩ := sur y h
      exact List.mem_map.mpr ⟨o, ho, e⟩
theorem mod_add_mod' (a b s : Int) : (a % s + b) % s = (a + b) % s := by
  have := mod_q a s
  rw [show a % s + b = (a + b) + s * (-(a / s)) by rw [Int.mul_neg]; omega, mod_add_mul]
def isShiftD (t j : Int) (d : D) : Bool := match d with | .int n => decide (1 ≤ n) && decide (n ≤ 6) && decide ((t + j) % n = 0) | _ => false
theorem isShiftD_iff {t j : Int} {d : D} : isShiftD t j d = true ↔ ∃ n, d = .int n ∧ (1 ≤ n ∧ n ≤ 6) ∧ (t + j) % n = 0 := by
  constructor
  · intro h
    unfold isShiftD at h
    split at h
    · rename_i n
      simp only [Bool.and_eq_true, decide_eq_true_eq] at h
      exact ⟨n, rfl, h.1, h.2⟩
    · cases h
  · rintro ⟨n, rfl, h1, h2⟩
    simp only [isShiftD, Bool.and_eq_true, decide_eq_true_eq]
    exact ⟨h1, h2⟩
theorem no_shift {t j n : Int} (h1 : 1 ≤ n) (h2 : n ≤ 6) (h3 : (t + j) % n = 0) : ¬ isShiftD t j (.int n) = false := by
  rw [isShiftD_iff.mpr ⟨n, rfl, ⟨h1, h2⟩, h3⟩]; decide
/-- the offset of a turn -/
def turnO (t j o n : Int) (i : Nat) : Int := (o + (0 + (i : Nat)) * (t + j) / n) % (t + j)
def nars (t j o : Int) (ds : List D) (n : Int) : Int := (List.range n.toNat).foldr (fun i m => min (nar t j (turnO t j o n i) ds) m) t
theorem foldr_min_le {f : Nat → Int} {t l : Int} (h : l ≤ t) : ∀ {is : List Nat}, l ≤ is.foldr (fun i m => min (f i) m) t ↔ ∀ i ∈ is, l ≤ f i
  | [] => ⟨fun _ _ h => (nomatch h), fun _ => h⟩
  | i :: r => by
    have ih := foldr_min_le (f := f) h (is := r)
    rw [List.foldr_cons]
    constructor
    · intro q d' hd
      rcases List.mem_cons.mp hd with e | hd
      · rw [e]; omega
      · exact ih.mp (by omega) d' hd
    · intro q
      have q1 := q i List.mem_cons_self
      have q2 := ih.mpr fun d' hd => q d' (List.mem_cons_of_mem _ hd)
      omega
theorem foldr_min_top {f : Nat → Int} {t : Int} : ∀ {is : List Nat}, is.foldr (fun i m => min (f i) m) t ≤ t
  | [] => Int.le_refl _
  | i :: r => by have := foldr_min_top (f := f) (t := t) (is := r); rw [List.foldr_cons]; omega
theorem le_nars {t j o l n : Int} {ds : List D} (h : l ≤ t) : l ≤ nars t j o ds n ↔ ∀ i : Nat, i < n.toNat → l ≤ nar t j (turnO t j o n i) ds := by
  unfold nars
  rw [foldr_min_le h]
  exact ⟨fun q i hi => q i (List.mem_range.mpr hi), fun q i hi => q i (List.mem_range.mp hi)⟩
theorem nars_le (t j o : Int) (ds : List D) (n : Int) : nars t j o ds n ≤ t := foldr_min_top
theorem nars_min {t j o m n : Int} {ds : List D} (h1 : m ∈ (List.range n.toNat).map fun i : Nat => nar t j (turnO t j o n i) ds) (h2 : ∀ y ∈ (List.range n.toNat).map fun i : Nat => nar t j (turnO t j o n i) ds, m ≤ y) : m = nars t j o ds n := by
  obtain ⟨i, hi, e⟩ := List.mem_map.mp h1
  have ht : m ≤ t := by rw [← e]; exact nar_le _ _ _ _
  have a : m ≤ nars t j o ds n := (le_nars ht).mpr fun i hi => h2 _ (List.mem_map.mpr ⟨i, List.mem_range.mpr hi, rfl⟩)
  have b : nars t j o ds n ≤ m := by
    rw [← e]
    exact (le_nars (nars_le t j o ds n)).mp (Int.le_refl _) i (List.mem_range.mp hi)
  omega
theorem eq_of_le {a b t : Int} (ha : a ≤ t) (hb : b ≤ t) (h : ∀ l, l ≤ t → (l ≤ a ↔ l ≤ b)) : a = b := by
  have h1 := (h a ha).mp (Int.le_refl _)
  have h2 := (h b hb).mpr (Int.le_refl _)
  omega
def goods (t j : Int) (ds : List D) (l n : Int) : List Int := ((List.range (t + j).toNat).map fun i : Nat => (i : Int)).filter fun o => decide (l ≤ nars t j o ds n)
theorem mem_goods {t j : Int} {ds : List D} {l n o : Int} : o ∈ goods t j ds l n ↔ (0 ≤ o ∧ o < t + j) ∧ l ≤ nars t j o ds n := by
  unfold goods
  rw [List.mem_filter, List.mem_map, decide_eq_true_eq]
  refine and_congr_left fun _ => ⟨?_, fun ⟨h1, h2⟩ => ⟨o.toNat, List.mem_range.mpr (by omega), by omega⟩⟩
  rintro ⟨i, hi, rfl⟩
  have := List.mem_range.mp hi
  omega
theorem goods_sorted (t j : Int) (ds : List D) (l n : Int) : (goods t j ds l n).Pairwise (· < ·) := by
  refine List.Pairwise.filter _ ?_
  rw [List.pairwise_map]
  exact List.pairwise_lt_range.imp fun {a b} h => by omega
theorem goods_list (t j : Int) (ds : List D) (l n : Int) : PyData.list (((rngD 0 (t + j).toNat).filter fun d => match d with | .int o => decide (l ≤ nars t j o ds n) | _ => false).map fun d => d) = intsD (goods t j ds l n) := by
  unfold goods intsD rngD
  rw [List.map_id', List.filter_map, List.filter_map, List.map_map]
  simp only [Int.zero_add]
  rfl
def wids (t j : Int) (ds : List D) (n : Int) : Int := ((List.range ((t + j) / n).toNat).map fun i : Nat => nars t j (i : Int) ds n).foldl max 0
/-- a border moved back -/
def mvd (x : Int) (d : D) : D := match d with | .tuple [.int p, z] => .tuple [.int (p - x), z] | _ => .none
def moreL (t j : Int) (ds : List D) (n : Int) (i : Nat) : List D := (List.range i).flatMap fun a => ds.map (mvd ((0 + (a : Nat)) * (t + j) / n))
theorem moreL_succ (t j : Int) (ds : List D) (n : Int) (i : Nat) : moreL t j ds n (i + 1) = moreL t j ds n i ++ ds.map (mvd ((0 + (i : Nat)) * (t + j) / n)) := by
  unfold moreL
  rw [List.range_succ, List.flatMap_append]
  simp
theorem wz_mvd {t j o x p : Int} {rt : Bool} : wz t j o (mvd x (bD p rt)) = wz t j ((o + x) % (t + j)) (bD p rt) := by
  show wz t j o (bD (p - x) rt) = _
  rw [wz_bD, wz_bD, width_of_mod (o := (o + x) % (t + j)) (p := p) (o' := o) (p' := p - x) (by rw [mod_sub_mod]; congr 1; omega)]
theorem nars_more {t j o n : Int} {ds : List D} (hB : AllB ds) : nars t j o ds n = nar t j o (moreL t j ds n n.toNat) :=
  eq_of_le (nars_le _ _ _ _ _) (nar_le _ _ _ _) fun l hl => by
    rw [le_nars hl, le_nar hl]
    constructor
    · intro h d hd
      obtain ⟨a, ha, hd⟩ := List.mem_flatMap.mp hd
      obtain ⟨d0, h0, rfl⟩ := List.mem_map.mp hd
      obtain ⟨p, rt, rfl, _⟩ := hB d0 h0
      rw [wz_mvd]
      exact (le_nar hl).mp (h a (List.mem_range.mp ha)) _ h0
    · intro h i hi
      refine (le_nar hl).mpr fun d0 h0 => ?_
      have q := h (mvd ((0 + (i : Nat)) * (t + j) / n) d0) (List.mem_flatMap.mpr ⟨i, List.mem_range.mpr hi, List.mem_map.mpr ⟨d0, h0, rfl⟩⟩)
      obtain ⟨p, rt, rfl, _⟩ := hB d0 h0
      rw [wz_mvd] at q
      exact q
theorem goods_more {t j l n : Int} {ds : List D} (hB : AllB ds) : goods t j ds l n = good t j (moreL t j ds n n.toNat) l :=
  sorted_ext (goods_sorted _ _ _ _ _) (good_sorted _ _ _ _) fun o => by rw [mem_goods, mem_good, nars_more hB]
/-- exact steps -/
theorem turn_ex {t j n q : Int} (hn : 0 < n) (h : t + j = n * q) (a : Int) : a * (t + j) / n = a * q := by
  rw [h, show a * (n * q) = n * (a * q) by rw [← Int.mul_assoc, Int.mul_comm a n, Int.mul_assoc], Int.mul_ediv_cancel_left _ (by omega)]
theorem nars_add {t j o n q : Int} {ds : List D} (hn : 0 < n) (h : t + j = n * q) : nars t j ((o + q) % (t + j)) ds n = nars t j o ds n :=
  eq_of_le (nars_le _ _ _ _ _) (nars_le _ _ _ _ _) fun l hl => by
    rw [le_nars hl, le_nars hl]
    have e1 : ∀ i : Nat, turnO t j ((o + q) % (t + j)) n i = (o + q + (i : Int) * q) % (t + j) := fun i => by
      unfold turnO; rw [turn_ex hn h, mod_add_mod', Int.zero_add]
    have e2 : ∀ i : Nat, turnO t j o n i = (o + (i : Int) * q) % (t + j) := fun i => by
      unfold turnO; rw [turn_ex hn h, Int.zero_add]
    constructor
    · intro z i hi
      cases i with
      | zero =>
        have q9 := z (n.toNat - 1) (by omega)
        rw [e1] at q9
        rw [e2]
        have e : o + q + ((n.toNat - 1 : Nat) : Int) * q = (o + ((0 : Nat) : Int) * q) + (t + j) * 1 := by
          rw [show ((n.toNat - 1 : Nat) : Int) = n - 1 by omega, Int.sub_mul, h]; omega
        rw [e, mod_add_mul] at q9
        exact q9
      | succ i =>
        have q9 := z i (by omega)
        rw [e1] at q9
        rw [e2, show ((i + 1 : Nat) : Int) = (i : Int) + 1 by omega, Int.add_mul, Int.one_mul, show o + ((i : Int) * q + q) = o + q + (i : Int) * q by omega]
        exact q9
    · intro z i hi
      rw [e1]
      by_cases c : i + 1 < n.toNat
      · have q9 := z (i + 1) c
        rw [e2, show ((i + 1 : Nat) : Int) = (i : Int) + 1 by omega, Int.add_mul, Int.one_mul, show o + ((i : Int) * q + q) = o + q + (i : Int) * q by omega] at q9
        exact q9
      · have q9 := z 0 (by omega)
        rw [e2] at q9
        have e : o + q + (i : Int) * q = (o + ((0 : Nat) : Int) * q) + (t + j) * 1 := by
          rw [show (i : Int) = n - 1 by omega, Int.sub_mul, h]; omega
        rw [e, mod_add_mul]
        exact q9
theorem nars_mod {t j o n : Int} {ds : List D} : nars t j (o % (t + j)) ds n = nars t j o ds n := by
  have e : ∀ i, turnO t j (o % (t + j)) n i = turnO t j o n i := fun i => by unfold turnO; rw [mod_add_mod']
  unfold nars
  simp only [e]
theorem nars_rest {t j n q : Int} {ds : List D} (hn : 0 < n) (h : t + j = n * q) (b : Int) : ∀ a : Nat, nars t j (b + (a : Int) * q) ds n = nars t j b ds n
  | 0 => by rw [show b + ((0 : Nat) : Int) * q = b by omega]
  | a + 1 => by
    have e : b + ((a + 1 : Nat) : Int) * q = b + (a : Int) * q + q := by rw [show ((a + 1 : Nat) : Int) = (a : Int) + 1 by omega, Int.add_mul]; omega
    rw [e, ← nars_mod, nars_add hn h, nars_rest hn h b a]
theorem wids_more {t j n q : Int} {ds : List D} (hB : AllB ds) (hn : 0 < n) (hq : 0 < q) (h : t + j = n * q) : wids t j ds n = widest t j (moreL t j ds n n.toNat) := by
  have hd : (t + j) / n = q := by rw [h, Int.mul_ediv_cancel_left _ (by omega)]
  have hqs : q ≤ t + j := by
    have e1 : (n - 1) * q = n * q - q := by rw [Int.sub_mul, Int.one_mul]
    have := Int.mul_nonneg (show 0 ≤ n - 1 by omega) (show 0 ≤ q by omega)
    omega
  unfold wids widest
  rw [hd]
  simp only [← nars_more hB]
  have a := foldl_max_le ((List.range q.toNat).map fun i : Nat => nars t j (i : Int) ds n) 0 (((List.range (t + j).toNat).map fun i : Nat => nars t j (i : Int) ds n).foldl max 0) (foldl_max_ge _ _).1 fun y hy => by
    obtain ⟨i, hi, rfl⟩ := List.mem_map.mp hy
    have hi := List.mem_range.mp hi
    exact (foldl_max_ge _ _).2 _ (List.mem_map.mpr ⟨i, List.mem_range.mpr (by omega), rfl⟩)
  have b := foldl_max_le ((List.range (t + j).toNat).map fun i : Nat => nars t j (i : Int) ds n) 0 (((List.range q.toNat).map fun i : Nat => nars t j (i : Int) ds n).foldl max 0) (foldl_max_ge _ _).1 fun y hy => by
    obtain ⟨i, hi, rfl⟩ := List.mem_map.mp hy
    have h0 := mod_lo (i : Int) hq
    have h1 := mod_hi (i : Int) hq
    have h2 := mod_q (i : Int) q
    have h3 : 0 ≤ (i : Int) / q := Int.ediv_nonneg (by omega) (by omega)
    refine (foldl_max_ge _ _).2 _ (List.mem_map.mpr ⟨((i : Int) % q).toNat, List.mem_range.mpr (by omega), ?_⟩)
    have e := nars_rest (ds := ds) hn h ((i : Int) % q) ((i : Int) / q).toNat
    rw [show (((i : Int) / q).toNat : Int) = (i : Int) / q by omega, Int.mul_comm, ← h2] at e
    rw [show ((((i : Int) % q).toNat : Nat) : Int) = (i : Int) % q by omega]
    exact e.symm
  omega
theorem goods_turned {t j l n q : Int} {ds : List D} (hn : 0 < n) (hq : 0 < q) (h : t + j = n * q) {ms : List Int} (hp : ms.Perm ((goods t j ds l n).map fun o => (o + q) % (t + j))) (hs : ms.Pairwise (· ≤ ·)) : ms = goods t j ds l n := by
  have hst : 0 < t + j := by rw [h]; exact Int.mul_pos hn hq
  refine sorted_img (goods_sorted _ _ _ _ _) (goods_sorted _ _ _ _ _) (fun o ho => ?_) (fun a ha b hb e => ?_) (fun y hy => ?_) hp hs
  · obtain ⟨_, h3⟩ := mem_goods.mp ho
    exact mem_goods.mpr ⟨⟨mod_lo _ hst, mod_hi _ hst⟩, by rw [nars_add hn h]; exact h3⟩
  · obtain ⟨⟨a1, a2⟩, _⟩ := mem_goods.mp ha
    obtain ⟨⟨b1, b2⟩, _⟩ := mem_goods.mp hb
    have e2 : ((a + q) % (t + j) - q) % (t + j) = ((b + q) % (t + j) - q) % (t + j) := by rw [e]
    rw [show (a + q) % (t + j) - q = (a + q) % (t + j) + (-q) by omega, show (b + q) % (t + j) - q = (b + q) % (t + j) + (-q) by omega, mod_add_mod', mod_add_mod', show a + q + -q = a by omega, show b + q + -q = b by omega, mod_small a1 a2, mod_small b1 b2] at e2
    exact e2
  · obtain ⟨⟨h1, h2⟩, h3⟩ := mem_goods.mp hy
    have e : ((y - q) % (t + j) + q) % (t + j) = y := by rw [mod_add_mod', show y - q + q = y by omega, mod_small h1 h2]
    refine ⟨(y - q) % (t + j), mem_goods.mpr ⟨⟨mod_lo _ hst, mod_hi _ hst⟩, ?_⟩, e⟩
    rw [← nars_add hn h, e]; exact h3
theorem goods_one {t j l : Int} {ds : List D} (hB : AllB ds) : goods t j ds l 1 = good t j ds l := by
  refine sorted_ext (goods_sorted _ _ _ _ _) (good_sorted _ _ _ _) fun o => ?_
  rw [mem_goods, mem_good]
  refine and_congr_right fun ⟨h1, h2⟩ => ?_
  have e : nars t j o ds 1 = nar t j o ds := by
    refine eq_of_le (nars_le _ _ _ _ _) (nar_le _ _ _ _) fun l hl => ?_
    rw [le_nars hl]
    have e : turnO t j o 1 0 = o := by
      unfold turnO; rw [show (0 + ((0 : Nat) : Int)) * (t + j) / 1 = 0 by simp, Int.add_zero, mod_small h1 h2]
    exact ⟨fun q => by have := q 0 (by decide); rw [e] at this; exact this, fun q i hi => by rw [show i = 0 by have : (1 : Int).toNat = 1 := rfl; omega, e]; exact q⟩
  rw [e]
theorem wids_one {t j : Int} {ds : List D} (ht : 0 < t) (hj : 0 ≤ j) (hB : AllB ds) : wids t j ds 1 = widest t j ds := by
  refine eq_of_le (t := max (wids t j ds 1) (widest t j ds)) (by omega) (by omega) fun l _ => ?_
  have hw : wids t j ds 1 = widest t j (moreL t j ds 1 (1 : Int).toNat) := wids_more hB (by decide) (q := t + j) (by omega) (by omega)
  have e : widest t j (moreL t j ds 1 (1 : Int).toNat) = widest t j ds := by
    have em : moreL t j ds 1 (1 : Int).toNat = ds.map (mvd 0) := by
      show moreL t j ds 1 (0 + 1) = _
      rw [moreL_succ]; simp [moreL]
    have e2 : ds.map (mvd 0) = ds := by
      rw [List.map_congr_left (g := id) fun d hd => ?_, List.map_id]
      obtain ⟨p, rt, rfl, _⟩ := hB d hd
      show bD (p - 0) rt = _
      rw [Int.sub_zero]; rfl
    rw [em, e2]
  rw [hw, e]
theorem goods_fewer {t j l n m k q o : Int} {ds : List D} (hl : l ≤ t) (hm : 0 < m) (hk : 0 < k) (hn : n = m * k) (h : t + j = n * q) (ho : o ∈ goods t j ds l n) : o ∈ goods t j ds l m := by
  obtain ⟨h0, h3⟩ := mem_goods.mp ho
  refine mem_goods.mpr ⟨h0, (le_nars hl).mpr fun i hi => ?_⟩
  have hn0 : 0 < n := by rw [hn]; exact Int.mul_pos hm hk
  have lt : (i * k.toNat) < n.toNat := by
    have : n.toNat = m.toNat * k.toNat := by rw [hn, Int.toNat_mul (by omega) (by omega)]
    rw [this]
    exact Nat.mul_lt_mul_of_pos_right hi (by omega)
  have q9 := (le_nars hl).mp h3 (i * k.toNat) lt
  have e : turnO t j o n (i * k.toNat) = turnO t j o m i := by
    unfold turnO
    rw [turn_ex hn0 h, turn_ex (q := k * q) hm (by rw [h, hn, Int.mul_assoc])]
    congr 2
    rw [Int.natCast_mul, show ((k.toNat : Nat) : Int) = k by omega, Int.zero_add, Int.zero_add, Int.mul_assoc]
  rw [e] at q9
  exact q9
theorem moreL_length {t j n : Int} {ds : List D} : ∀ i, (moreL t j ds n i).length = i * ds.length
  | 0 => by simp [moreL]
  | i + 1 => by rw [moreL_succ, List.length_append, moreL_length i, List.length_map, Nat.succ_mul]
theorem div_bd {s n : Int} (h1 : 1 ≤ n) (h2 : 0 < s) (h3 : s % n = 0) : 1 ≤ s / n ∧ s / n ≤ s ∧ s = n * (s / n) := by
  have h := mod_q s n
  rw [h3, Int.zero_add] at h
  have h4 : 0 < s / n := by
    rcases Int.lt_or_le 0 (s / n) with z | z
    · exact z
    · exfalso
      have := Int.mul_le_mul_of_nonneg_left z (show 0 ≤ n by omega)
      rw [Int.mul_zero] at this
      omega
  exact ⟨by omega, Int.ediv_le_self n (by omega), h⟩
/-- borders not left of 0 -/
def AllQ (ds : List D) : Prop := ∀ d ∈ ds, ∃ p rt, d = bD p rt ∧ 0 ≤ p ∧ p ≤ 1000000000000000
theorem AllQ.b {ds : List D} (h : AllQ ds) : AllB ds := fun d hd => by
  obtain ⟨p, rt, e, h1, h2⟩ := h d hd
  exact ⟨p, rt, e, by omega, h2⟩
theorem AllQ.snoc {ds : List D} {p : Int} {rt : Bool} (h : AllQ ds) (h1 : 0 ≤ p) (h2 : p ≤ 1000000000000000) : AllQ (ds ++ [bD p rt]) := fun d hd => by
  rcases List.mem_append.mp hd with hd | hd
  · exact h d hd
  · exact ⟨p, rt, List.mem_singleton.mp hd, h1, h2⟩
theorem moreL_ok {t j n : Int} {ds : List D} (ht : 0 < t + j) (ht2 : t + j ≤ 1000) (h : AllQ ds) (h1 : 1 ≤ ds.length) (h2 : ds.length ≤ 2) (hn : 1 ≤ n) (hn2 : n ≤ 6) : IsBorders (moreL t j ds n n.toNat) := by
  refine ⟨?_, ?_, fun d hd => ?_⟩
  · rw [moreL_length]
    have := Nat.mul_le_mul (show 1 ≤ n.toNat by omega) h1
    omega
  · rw [moreL_length]
    have := Nat.mul_le_mul (show n.toNat ≤ 6 by omega) h2
    omega
  · obtain ⟨a, ha, hd⟩ := List.mem_flatMap.mp hd
    obtain ⟨d0, h0, rfl⟩ := List.mem_map.mp hd
    obtain ⟨p, rt, rfl, p1, p2⟩ := h d0 h0
    have ha := List.mem_range.mp ha
    obtain ⟨b1, b2⟩ := mul_bd (a := 0 + (a : Nat)) (A := 6) (b := t + j) (B := 1000) (by omega) (by omega) (by omega) ht2
    have b3 : 0 ≤ (0 + (a : Nat)) * (t + j) / n := Int.ediv_nonneg b1 (by omega)
    have b4 := Int.ediv_le_self n b1
    exact ⟨_, rt, rfl, by omega, by omega⟩
theorem goods_length (t j : Int) (ds : List D) (l n : Int) : (goods t j ds l n).length ≤ (t + j).toNat := by
  unfold goods
  refine Nat.le_trans (List.length_filter_le _ _) ?_
  rw [List.length_map, List.length_range]
  exact Nat.le_refl _
theorem good_length (t j : Int) (ds : List D) (l : Int) : (good t j ds l).length ≤ (t + j).toNat := by
  unfold good
  refine Nat.le_trans (List.length_filter_le _ _) ?_
  rw [List.length_map, List.length_range]
  exact Nat.le_refl _
theorem ints_flat (ns : List Int) : (ns.map PyData.int).all flatD = true := by
  rw [List.all_map, List.all_eq_true]; exact fun _ _ => rfl
theorem inD_ints (o : Int) (ns : List Int) : inD (.int o) (ns.map .int) = decide (o ∈ ns) := by
  unfold inD
  rw [List.any_map, Bool.eq_iff_iff, List.any_eq_true, decide_eq_true_eq]
  constructor
  · rintro ⟨x, hx, e⟩
    simp only [Function.comp, eqv_int, decide_eq_true_eq] at e
    exact e ▸ hx
  · intro h
    exact ⟨o, h, by simp only [Function.comp, eqv_int, decide_eq_true_eq]⟩
theorem ints_map {f : D → D} {g : Int → Int} (ns : List Int) (h : ∀ i, f (.int i) = .int (g i)) : PyData.list ((ns.map PyData.int).map f) = intsD (ns.map g) := by
  unfold intsD
  rw [List.map_map, List.map_map]
  exact congrArg PyData.list (List.map_congr_left fun i _ => h i)
theorem ints_mem {ns : List Int} {d : D} (h : d ∈ ns.map PyData.int) : ∃ o, o ∈ ns ∧ d = .int o := by
  obtain ⟨o, h1, h2⟩ := List.mem_map.mp h
  exact ⟨o, h1, h2.symm⟩
theorem filt0 {α : Type} (xs : List α) : xs.filter (fun _ => false) = [] := by induction xs with
  | nil => rfl
  | cons x r ih => simp [ih]
/-- contracts -/
def s_need_shifts (C : Addr) : Ct := fun ss k ex => ∃ t j v, ss = [.d (kD t j), .d v] ∧ (isShiftD t j v = true → k .none) ∧ (isShiftD t j v = false → ex (.ref C))
def s_narrowest_of : Ct := fun ss k _ => ∃ t j o ds n, ss = [.d (kD t j), .d (.int o), .d (.tuple ds), .d (.int n)] ∧ IsKind t j ∧ AllB ds ∧ ds.length ≤ 1000 ∧ (1 ≤ n ∧ n ≤ 6) ∧ k (.int (nars t j o ds n))
def s_good_shifted (CK CB CN : Addr) : Ct := fun ss k ex => ∃ kd bd ld nd, ss = [.d kd, .d bd, .d ld, .d nd] ∧ (isKindD kd = false → ex (.ref CK)) ∧
  ∀ t j, kd = kD t j → IsKind t j → (isBordersD bd = false → ex (.ref CB)) ∧ ∀ ds, bd = .tuple ds → IsBorders ds → (isIntD ld 1 t = false → ex (.ref CN)) ∧ ∀ l, ld = .int l → 1 ≤ l → l ≤ t → (isShiftD t j nd = false → ex (.ref CN)) ∧
  ∀ n, nd = .int n → 1 ≤ n → n ≤ 6 → (t + j) % n = 0 → k (intsD (goods t j ds l n))
def s_widest_shifted (CK CB CN : Addr) : Ct := fun ss k ex => ∃ kd bd nd, ss = [.d kd, .d bd, .d nd] ∧ (isKindD kd = false → ex (.ref CK)) ∧
  ∀ t j, kd = kD t j → IsKind t j → (isBordersD bd = false → ex (.ref CB)) ∧ ∀ ds, bd = .tuple ds → IsBorders ds → (isShiftD t j nd = false → ex (.ref CN)) ∧
  ∀ n, nd = .int n → 1 ≤ n → n ≤ 6 → (t + j) % n = 0 → k (.int (wids t j ds n))
theorem s_good_shifted_ok {CK CB CN : Addr} {t j l n : Int} {ds : List D} {k : D → Prop} {ex : Value → Prop} (h1 : IsKind t j) (h2 : IsBorders ds) (h3 : 1 ≤ l) (h4 : l ≤ t) (h5 : 1 ≤ n) (h6 : n ≤ 6) (h7 : (t + j) % n = 0) (h : k (intsD (goods t j ds l n))) :
    s_good_shifted CK CB CN [.d (kD t j), .d (.tuple ds), .d (.int l), .d (.int n)] k ex := by
  refine ⟨_, _, _, _, rfl, fun z => absurd z (no_kind h1), ?_⟩
  intro t' j' e _
  cases e
  refine ⟨fun z => absurd z (no_borders h2), ?_⟩
  intro ds' e _
  cases e
  refine ⟨fun z => absurd z (no_int h3 h4), ?_⟩
  intro l' e _ _
  cases e
  refine ⟨fun z => absurd z (no_shift h5 h6 h7), ?_⟩
  intro n' e _ _ _
  cases e
  exact h
theorem s_widest_shifted_ok {CK CB CN : Addr} {t j n : Int} {ds : List D} {k : D → Prop} {ex : Value → Prop} (h1 : IsKind t j) (h2 : IsBorders ds) (h5 : 1 ≤ n) (h6 : n ≤ 6) (h7 : (t + j) % n = 0) (h : k (.int (wids t j ds n))) :
    s_widest_shifted CK CB CN [.d (kD t j), .d (.tuple ds), .d (.int n)] k ex := by
  refine ⟨_, _, _, rfl, fun z => absurd z (no_kind h1), ?_⟩
  intro t' j' e _
  cases e
  refine ⟨fun z => absurd z (no_borders h2), ?_⟩
  intro ds' e _
  cases e
  refine ⟨fun z => absurd z (no_shift h5 h6 h7), ?_⟩
  intro n' e _ _ _
  cases e
  exact h
theorem wids_is {t j m n : Int} {ds : List D} (ht : 0 < t) (hj : 0 ≤ j) (hn : 1 ≤ n) (hB : AllB ds) (h1 : m ∈ (List.range ((t + j) / n).toNat).map fun i : Nat => nars t j (0 + (i : Int)) ds n) (h2 : ∀ y ∈ (List.range ((t + j) / n).toNat).map fun i : Nat => nars t j (0 + (i : Int)) ds n, y ≤ m) : m = wids t j ds n := by
  simp only [Int.zero_add] at h1 h2
  refine max_is ?_ h1 h2
  obtain ⟨i0, _, rfl⟩ := List.mem_map.mp h1
  exact (le_nars (by omega)).mpr fun i hi => by have := nar_pos (o := turnO t j (i0 : Int) n i) ht hj hB; omega
end Tp

set_option linter.all false
set_option maxRecDepth 100000
set_option maxHeartbeats 4000000
namespace Tp
open PySem PySem.Spec PyProof.Rows L2 Tl
/-! free places, needless borders, good tiles -/
def fil (P : Nat → Bool) (n : Nat) : List Int := ((List.range n).filter P).map fun i : Nat => (i : Int)
theorem fil_t {P : Nat → Bool} {n : Nat} (h : P n = true) : fil P (n + 1) = fil P n ++ [(n : Int)] := by
  unfold fil; rw [List.range_succ, List.filter_append, List.map_append]; simp [h]
theorem fil_f {P : Nat → Bool} {n : Nat} (h : P n = false) : fil P (n + 1) = fil P n := by
  unfold fil; rw [List.range_succ, List.filter_append, List.map_append]; simp [h]
theorem fil_len (P : Nat → Bool) (n : Nat) : (fil P n).length ≤ n := by
  unfold fil
  rw [List.length_map]
  refine Nat.le_trans (List.length_filter_le _ _) ?_
  rw [List.length_range]; exact Nat.le_refl _
theorem mem_fil {P : Nat → Bool} {n : Nat} {x : Int} : x ∈ fil P n ↔ ∃ i : Nat, i < n ∧ P i = true ∧ x = i := by
  unfold fil
  rw [List.mem_map]
  constructor
  · rintro ⟨i, hi, rfl⟩
    obtain ⟨h1, h2⟩ := List.mem_filter.mp hi
    exact ⟨i, List.mem_range.mp h1, h2, rfl⟩
  · rintro ⟨i, h1, h2, rfl⟩
    exact ⟨i, List.mem_filter.mpr ⟨List.mem_range.mpr h1, h2⟩, rfl⟩
theorem fil_sorted (P : Nat → Bool) (n : Nat) : (fil P n).Pairwise (· < ·) := by
  unfold fil
  rw [List.pairwise_map]
  exact (List.Pairwise.filter _ List.pairwise_lt_range).imp fun {a b} h => by omega
/-- snoc of ints as data -/
theorem fil_dt {P : Nat → Bool} {n : Nat} (h : P n = true) : (fil P n).map PyData.int ++ [PyData.int (0 + (n : Int))] = (fil P (n + 1)).map PyData.int := by
  rw [fil_t h, List.map_append, Int.zero_add]; rfl
def inl (l w : Int) : Bool := decide (0 < w) && decide (w < l)
def freeP (t j : Int) (ds : List D) (l : Int) (rt : Bool) (i : Nat) : Bool := !((good t j ds l).map fun o => inl l (width t j o (i : Int) rt)).all id
def frees (t j : Int) (ds : List D) (l : Int) (rt : Bool) : List Int := fil (freeP t j ds l rt) (t + j).toNat
def rmv (ds : List D) (i : Nat) : List D := ds.take i ++ ds.drop (i + 1)
def ndlP (t j : Int) (ds : List D) (l : Int) (i : Nat) : Bool := decide (good t j (rmv ds i) l = good t j ds l)
def ndl (t j : Int) (ds : List D) (l : Int) : List Int := fil (ndlP t j ds l) ds.length
def gtl (j : Int) (ds : List D) (l lo hi : Int) : List Int := ((List.range (hi + 1 - lo).toNat).map fun i : Nat => lo + (i : Int)).filter fun t => !decide (good t j ds l = [])
theorem rmv_all {ds : List D} {i : Nat} (h : AllB ds) : AllB (rmv ds i) := fun d hd => by
  rcases List.mem_append.mp hd with hd | hd
  · exact h d (List.mem_of_mem_take hd)
  · exact h d (List.mem_of_mem_drop hd)
theorem rmv_len {ds : List D} {i : Nat} : (rmv ds i).length ≤ ds.length := by
  unfold rmv; rw [List.length_append, List.length_take, List.length_drop]; omega
theorem gtl_list (j : Int) (ds : List D) (l lo hi : Int) : PyData.list (((rngD lo (hi + 1 - lo).toNat).filter fun d => match d with | .int t => !decide (good t j ds l = []) | _ => false).map fun d => d) = intsD (gtl j ds l lo hi) := by
  unfold gtl intsD rngD
  rw [List.map_id', List.filter_map, List.filter_map, List.map_map]
  rfl
theorem eqv_nil (ns : List Int) : PyData.eqv (intsD ns) (.list []) = decide (ns = []) := eqv_ints ns []
theorem eqv_bool (a b : Bool) : PyData.eqv (.bool a) (.bool b) = decide (a = b) := by
  show (a == b) = _
  exact Bool.beq_eq_decide_eq a b
def s_good_tiles (CB CN : Addr) : Ct := fun ss k ex => ∃ jd bd ld lod hid, ss = [.d jd, .d bd, .d ld, .d lod, .d hid] ∧ (isIntD jd 0 20 = false → ex (.ref CN)) ∧
  ∀ j, jd = .int j → 0 ≤ j → j ≤ 20 → (isBordersD bd = false → ex (.ref CB)) ∧ ∀ ds, bd = .tuple ds → IsBorders ds → (isIntD ld 1 500 = false → ex (.ref CN)) ∧
  ∀ l, ld = .int l → 1 ≤ l → l ≤ 500 → (isIntD lod l 500 = false → ex (.ref CN)) ∧ ∀ lo, lod = .int lo → l ≤ lo → lo ≤ 500 → (isIntD hid lo 500 = false → ex (.ref CN)) ∧
  ∀ hi, hid = .int hi → lo ≤ hi → hi ≤ 500 → k (intsD (gtl j ds l lo hi))
theorem s_good_tiles_ok {CB CN : Addr} {j l lo hi : Int} {ds : List D} {k : D → Prop} {ex : Value → Prop} (h0 : 0 ≤ j) (h1 : j ≤ 20) (h2 : IsBorders ds) (h3 : 1 ≤ l) (h4 : l ≤ lo) (h5 : lo ≤ hi) (h6 : hi ≤ 500) (h : k (intsD (gtl j ds l lo hi))) :
    s_good_tiles CB CN [.d (.int j), .d (.tuple ds), .d (.int l), .d (.int lo), .d (.int hi)] k ex := by
  refine ⟨_, _, _, _, _, rfl, fun z => absurd z (no_int h0 h1), ?_⟩
  intro j' e _ _
  cases e
  refine ⟨fun z => absurd z (no_borders h2), ?_⟩
  intro ds' e _
  cases e
  refine ⟨fun z => absurd z (no_int h3 (by omega)), ?_⟩
  intro l' e _ _
  cases e
  refine ⟨fun z => absurd z (no_int h4 (by omega)), ?_⟩
  intro lo' e _ _
  cases e
  refine ⟨fun z => absurd z (no_int h5 h6), ?_⟩
  intro hi' e _ _
  cases e
  exact h
def s_free_places (CK CB CN CS : Addr) : Ct := fun ss k ex => ∃ kd bd ld sd, ss = [.d kd, .d bd, .d ld, .d sd] ∧ (isKindD kd = false → ex (.ref CK)) ∧
  ∀ t j, kd = kD t j → IsKind t j → (isBordersD bd = false → ex (.ref CB)) ∧ ∀ ds, bd = .tuple ds → IsBorders ds → (isIntD ld 1 t = false → ex (.ref CN)) ∧ ∀ l, ld = .int l → 1 ≤ l → l ≤ t →
  (isSideD sd = false → ex (.ref CS)) ∧ ∀ rt, sd = .str (sideS rt) → k (intsD (frees t j ds l rt))
theorem no_side (rt : Bool) : ¬ isSideD (.str (sideS rt)) = false := by
  rw [isSideD_iff.mpr ⟨rt, rfl⟩]; decide
theorem sideS_inj {a b : Bool} (h : sideS a = sideS b) : a = b := by
  have z := congrArg (fun s => s == ("right" : Str)) h
  simp only [sideS_right] at z
  exact z
theorem s_free_places_ok {CK CB CN CS : Addr} {t j l : Int} {ds : List D} {rt : Bool} {k : D → Prop} {ex : Value → Prop} (h1 : IsKind t j) (h2 : IsBorders ds) (h3 : 1 ≤ l) (h4 : l ≤ t) (h : k (intsD (frees t j ds l rt))) :
    s_free_places CK CB CN CS [.d (kD t j), .d (.tuple ds), .d (.int l), .d (.str (sideS rt))] k ex := by
  refine ⟨_, _, _, _, rfl, fun z => absurd z (no_kind h1), ?_⟩
  intro t' j' e _
  cases e
  refine ⟨fun z => absurd z (no_borders h2), ?_⟩
  intro ds' e _
  cases e
  refine ⟨fun z => absurd z (no_int h3 h4), ?_⟩
  intro l' e _ _
  cases e
  refine ⟨fun z => absurd z (no_side rt), ?_⟩
  intro rt' e
  injection e with e
  rw [← sideS_inj e]
  exact h
abbrev s_needless_borders (CK CB CN : Addr) : Ct := s_kbl CK CB CN fun t j ds l => intsD (ndl t j ds l)
/-! scaled -/
theorem width_scale {x t j o p : Int} {rt : Bool} (hx : 0 < x) (ht : 0 < t) (hj : 0 ≤ j) : width (x * t) (x * j) (x * o) (x * p) rt = x * width t j o p rt := by
  have e : (x * p - x * o) % (x * t + x * j) = x * ((p - o) % (t + j)) := by
    rw [← Int.mul_sub, ← Int.mul_add, Int.mul_emod_mul_of_pos _ _ hx]
  have h0 := mod_lo (p - o) (s := t + j) (by omega)
  unfold width
  rw [e]
  generalize (p - o) % (t + j) = r at *
  have le : ∀ a b : Int, x * a ≤ x * b ↔ a ≤ b := fun a b => Int.mul_le_mul_left hx
  have ez : ∀ a : Int, x * a = 0 ↔ a = 0 := fun a => ⟨fun z => by rcases Int.mul_eq_zero.mp z with z | z <;> omega, fun z => by rw [z, Int.mul_zero]⟩
  cases rt
  · simp only [Bool.false_eq_true, if_false]
    by_cases c1 : r = 0
    · rw [if_pos ((ez r).mpr c1), if_pos c1]
      by_cases c2 : j = 0
      · rw [if_pos ((ez j).mpr c2), if_pos c2]
      · rw [if_neg (fun z => c2 ((ez j).mp z)), if_neg c2, Int.mul_zero]
    · rw [if_neg (fun z => c1 ((ez r).mp z)), if_neg c1]
      by_cases c2 : r ≤ t
      · rw [if_pos ((le r t).mpr c2), if_pos c2]
      · rw [if_neg (fun z => c2 ((le r t).mp z)), if_neg c2, Int.mul_zero]
  · simp only [if_true]
    rw [← Int.mul_sub]
    by_cases c : 0 ≤ t - r
    · have := Int.mul_nonneg (show 0 ≤ x by omega) c
      rw [show max 0 (t - r) = t - r by omega, show max 0 (x * (t - r)) = x * (t - r) by omega]
    · have := (le (t - r) 0).mpr (by omega)
      rw [Int.mul_zero] at this
      rw [show max 0 (t - r) = 0 by omega, show max 0 (x * (t - r)) = 0 by omega, Int.mul_zero]
def sclB (x : Int) (d : D) : D := match d with | .tuple [.int p, z] => .tuple [.int (x * p), z] | _ => .none
theorem wz_scale {x t j o p : Int} {rt : Bool} (hx : 0 < x) (ht : 0 < t) (hj : 0 ≤ j) : wz (x * t) (x * j) (x * o) (sclB x (bD p rt)) = x * wz t j o (bD p rt) := by
  show wz _ _ _ (bD (x * p) rt) = _
  rw [wz_bD, wz_bD, width_scale hx ht hj]
  by_cases c : width t j o p rt = 0
  · rw [if_pos c, if_pos (by rw [c, Int.mul_zero])]
  · rw [if_neg c, if_neg (fun z => by rcases Int.mul_eq_zero.mp z with z | z <;> omega)]
theorem good_scale {x t j l : Int} {ds : List D} (hx : 0 < x) (ht : 0 < t) (hj : 0 ≤ j) (hl : l ≤ t) (hB : AllB ds) :
    ((good (x * t) (x * j) (ds.map (sclB x)) (x * l)).filter fun o => decide (o % x = 0)).map (fun o => o / x) = good t j ds l := by
  have le : ∀ a b : Int, x * a ≤ x * b ↔ a ≤ b := fun a b => Int.mul_le_mul_left hx
  have hm : ∀ o : Int, x * o ∈ good (x * t) (x * j) (ds.map (sclB x)) (x * l) ↔ o ∈ good t j ds l := fun o => by
    rw [mem_good, mem_good, le_nar ((le l t).mpr hl), le_nar hl]
    refine and_congr ?_ ?_
    · rw [← Int.mul_add]
      refine and_congr ?_ (Int.mul_lt_mul_left hx)
      have := le 0 o
      rw [Int.mul_zero] at this
      exact this
    · constructor
      · intro h d hd
        obtain ⟨p, rt, rfl, _⟩ := hB d hd
        have q := h _ (List.mem_map.mpr ⟨_, hd, rfl⟩)
        rw [wz_scale hx ht hj] at q
        exact (le _ _).mp q
      · intro h d hd
        obtain ⟨d0, h0, rfl⟩ := List.mem_map.mp hd
        obtain ⟨p, rt, rfl, _⟩ := hB d0 h0
        rw [wz_scale hx ht hj]
        exact (le _ _).mpr (h _ h0)
  have ex : ∀ o : Int, o % x = 0 → o = x * (o / x) := fun o h => by have := mod_q o x; omega
  refine sorted_ext ?_ (good_sorted _ _ _ _) fun o => ?_
  · rw [List.pairwise_map]
    refine ((good_sorted _ _ _ _).filter _).imp_of_mem fun {a b} ha hb h => ?_
    have h1 := ex a (of_decide_eq_true (List.mem_filter.mp ha).2)
    have h2 := ex b (of_decide_eq_true (List.mem_filter.mp hb).2)
    rw [h1, h2] at h
    exact (Int.mul_lt_mul_left hx).mp h
  · rw [List.mem_map]
    constructor
    · rintro ⟨a, ha, rfl⟩
      obtain ⟨h1, h2⟩ := List.mem_filter.mp ha
      rw [← hm, ← ex a (of_decide_eq_true h2)]
      exact h1
    · intro h
      refine ⟨x * o, List.mem_filter.mpr ⟨(hm o).mpr h, by simp⟩, Int.mul_ediv_cancel_left _ (by omega)⟩
theorem mem_gtl {j l t : Int} {ds : List D} (h : l ≤ t) : t ∈ gtl j ds l l t ↔ good t j ds l ≠ [] := by
  unfold gtl
  rw [List.mem_filter]
  simp only [Bool.not_eq_true', decide_eq_false_iff_not]
  exact ⟨fun z => z.2, fun z => ⟨List.mem_map.mpr ⟨(t - l).toNat, List.mem_range.mpr (by omega), by omega⟩, z⟩⟩
theorem good_snoc {t j l o : Int} {ds : List D} {p : Int} {rt : Bool} (hl : l ≤ t) : o ∈ good t j (ds ++ [bD p rt]) l ↔ o ∈ good t j ds l ∧ l ≤ wz t j o (bD p rt) := by
  rw [mem_good, mem_good, le_nar hl, le_nar hl]
  constructor
  · rintro ⟨h, q⟩
    exact ⟨⟨h, fun d hd => q d (List.mem_append_left _ hd)⟩, q _ (List.mem_append_right _ List.mem_cons_self)⟩
  · rintro ⟨⟨h, q⟩, z⟩
    refine ⟨h, fun d hd => ?_⟩
    rcases List.mem_append.mp hd with hd | hd
    · exact q d hd
    · rw [List.mem_singleton.mp hd]; exact z
theorem not_inl {t j l o p : Int} {rt : Bool} (ht : 0 < t) (hj : 0 ≤ j) (hl : l ≤ t) : inl l (width t j o p rt) = false ↔ l ≤ wz t j o (bD p rt) := by
  rw [wz_bD]
  have := width_bd (t := t) (j := j) (o := o) (p := p) (rt := rt) ht hj
  unfold inl
  rw [Bool.and_eq_false_iff, decide_eq_false_iff_not, decide_eq_false_iff_not]
  split <;> omega
theorem mem_frees {t j l r m : Int} {ds : List D} {rt : Bool} (ht : 0 < t) (hj : 0 ≤ j) (hl : l ≤ t) (hr : 0 ≤ r) (hr2 : r < t + j) : r ∈ frees t j ds l rt ↔ good t j (ds ++ [bD (r + (t + j) * m) rt]) l ≠ [] := by
  have hw : ∀ o, wz t j o (bD (r + (t + j) * m) rt) = wz t j o (bD r rt) := fun o => by
    rw [wz_bD, wz_bD, width_of_mod (o := o) (p := r) (o' := o) (p' := r + (t + j) * m) (by rw [show r + (t + j) * m - o = (r - o) + (t + j) * m by omega, mod_add_mul])]
  unfold frees
  rw [mem_fil]
  have key : freeP t j ds l rt r.toNat = true ↔ ∃ o ∈ good t j ds l, l ≤ wz t j o (bD r rt) := by
    unfold freeP
    rw [Bool.not_eq_true', List.all_eq_false]
    simp only [List.mem_map, id]
    constructor
    · rintro ⟨x, ⟨o, ho, rfl⟩, hx⟩
      refine ⟨o, ho, (not_inl ht hj hl).mp ?_⟩
      rw [show ((r.toNat : Nat) : Int) = r by omega] at hx
      exact Bool.eq_false_iff.mpr hx
    · rintro ⟨o, ho, hx⟩
      refine ⟨_, ⟨o, ho, rfl⟩, ?_⟩
      rw [show ((r.toNat : Nat) : Int) = r by omega, (not_inl ht hj hl).mpr hx]
      decide
  constructor
  · rintro ⟨i, hi, hP, e⟩
    have ei : i = r.toNat := by omega
    subst ei
    obtain ⟨o, ho, hx⟩ := key.mp hP
    exact fun z => by
      have q : o ∈ good t j (ds ++ [bD (r + (t + j) * m) rt]) l := (good_snoc hl).mpr ⟨ho, by rw [hw]; exact hx⟩
      rw [z] at q; exact nomatch q
  · intro h
    obtain ⟨o, ho⟩ := List.exists_mem_of_ne_nil _ h
    obtain ⟨h1, h2⟩ := (good_snoc hl).mp ho
    rw [hw] at h2
    exact ⟨r.toNat, by omega, key.mpr ⟨o, h1, h2⟩, by omega⟩
theorem ndl_mem {t j l x : Int} {ds : List D} (h : x ∈ ndl t j ds l) : 0 ≤ x ∧ x < ds.length ∧ good t j (rmv ds x.toNat) l = good t j ds l := by
  obtain ⟨i, h1, h2, rfl⟩ := mem_fil.mp h
  exact ⟨by omega, by omega, by rw [Int.toNat_natCast]; exact of_decide_eq_true h2⟩
/-- the first border twice -/
theorem good_twice {t j l p p' : Int} {rt : Bool} {r : List D} (hl : l ≤ t) (hp : ∀ o, wz t j o (bD p' rt) = wz t j o (bD p rt)) : good t j (bD p rt :: bD p' rt :: r) l = good t j (bD p rt :: r) l :=
  good_ext rfl fun o _ _ => by
    rw [le_nar hl, le_nar hl]
    constructor
    · intro h d hd
      rcases List.mem_cons.mp hd with e | hd
      · exact h d (e ▸ List.mem_cons_self)
      · exact h d (List.mem_cons_of_mem _ (List.mem_cons_of_mem _ hd))
    · intro h d hd
      rcases List.mem_cons.mp hd with e | hd
      · exact h d (e ▸ List.mem_cons_self)
      · rcases List.mem_cons.mp hd with e | hd
        · rw [e, hp]; exact h _ List.mem_cons_self
        · exact h d (List.mem_cons_of_mem _ hd)
theorem good_other {t j l p p' : Int} {rt : Bool} {r : List D} (hl : l ≤ t) (hp : ∀ o, wz t j o (bD p' rt) = wz t j o (bD p rt)) : good t j (bD p' rt :: r) l = good t j (bD p rt :: r) l :=
  good_ext rfl fun o _ _ => by
    rw [le_nar hl, le_nar hl]
    constructor
    · intro h d hd
      rcases List.mem_cons.mp hd with e | hd
      · rw [e, ← hp]; exact h _ List.mem_cons_self
      · exact h d (List.mem_cons_of_mem _ hd)
    · intro h d hd
      rcases List.mem_cons.mp hd with e | hd
      · rw [e, hp]; exact h _ List.mem_cons_self
      · exact h d (List.mem_cons_of_mem _ hd)
theorem wz_step {t j o p m : Int} {rt : Bool} : wz t j o (bD (p + (t + j) * m) rt) = wz t j o (bD p rt) := by
  rw [wz_bD, wz_bD, width_of_mod (o := o) (p := p) (o' := o) (p' := p + (t + j) * m) (by rw [show p + (t + j) * m - o = (p - o) + (t + j) * m by omega, mod_add_mul])]
theorem twice_ndl {t j l p p' : Int} {rt : Bool} {r : List D} (hl : l ≤ t) (hp : ∀ o, wz t j o (bD p' rt) = wz t j o (bD p rt)) {x : Int} (hx : x = 0 ∨ x = 1) : x ∈ ndl t j (bD p rt :: bD p' rt :: r) l := by
  refine mem_fil.mpr ⟨x.toNat, by simp only [List.length_cons]; omega, decide_eq_true ?_, by omega⟩
  rw [good_twice hl hp]
  rcases hx with rfl | rfl
  · exact good_other hl hp
  · rfl
theorem fm_ints {f : D → D} {p : D → Bool} {f' : Int → Int} {p' : Int → Bool} (ns : List Int) (h1 : ∀ i, f (.int i) = .int (f' i)) (h2 : ∀ i, p (.int i) = p' i) : PyData.list (((ns.map PyData.int).filter p).map f) = intsD ((ns.filter p').map f') := by
  unfold intsD
  induction ns with
  | nil => rfl
  | cons n r ih =>
    have ih := PyData.list.inj ih
    simp only [List.map_cons, List.filter_cons, h2]
    cases p' n <;> simp [ih, h1]
theorem in_vs_ne {x : Int} {ns ms : List Int} (h : x ∈ ns ↔ ms ≠ []) : PyData.bool (inD (.int x) (ns.map .int)) = .bool (!PyData.eqv (intsD ms) (.list [])) := by
  rw [inD_ints, eqv_nil]
  by_cases c : ms = [] <;> simp [h, c]
/-- places of borders that leave room to be scaled -/
def AllS (ds : List D) : Prop := ∀ d ∈ ds, ∃ p rt, d = bD p rt ∧ 0 ≤ p ∧ p ≤ 100000000000000
theorem AllS.b {ds : List D} (h : AllS ds) : AllB ds := fun d hd => by
  obtain ⟨p, rt, e, h1, h2⟩ := h d hd
  exact ⟨p, rt, e, by omega, by omega⟩
theorem AllS.snoc {ds : List D} {p : Int} {rt : Bool} (h : AllS ds) (h1 : 0 ≤ p) (h2 : p ≤ 100000000000000) : AllS (ds ++ [bD p rt]) := fun d hd => by
  rcases List.mem_append.mp hd with hd | hd
  · exact h d hd
  · exact ⟨p, rt, List.mem_singleton.mp hd, h1, h2⟩
theorem scl_ok {ds : List D} {x : Int} (h : AllS ds) (h1 : 1 ≤ ds.length) (h2 : ds.length ≤ 12) (hx : x = 3 ∨ x = 5) : IsBorders (ds.map (sclB x)) :=
  ⟨by rw [List.length_map]; exact h1, by rw [List.length_map]; exact h2, fun d hd => by
    obtain ⟨d0, h0, rfl⟩ := List.mem_map.mp hd
    obtain ⟨p, rt, rfl, p1, p2⟩ := h d0 h0
    exact ⟨x * p, rt, rfl, by rcases hx with rfl | rfl <;> omega, by rcases hx with rfl | rfl <;> omega⟩⟩
theorem atI_nat {ds : List D} {n : Int} {d : D} (h0 : 0 ≤ n) (h : ds[n.toNat]? = some d) : atI ds n = some d := by
  have hl : n.toNat < ds.length := (List.getElem?_eq_some_iff.mp h).1
  show (ixN ds.length n).bind (fun j => ds[j]?) = _
  unfold ixN
  rw [if_pos h0, if_pos (by omega)]
  exact h
theorem atI_zero (d : D) (r : List D) : atI (d :: r) 0 = some d := atI_nat (by decide) rfl
/-! shapes -/
theorem lay_all : ∀ {ds : List D}, (∀ d ∈ ds, d.canLay0 = true) → PyData.canLayAll0 ds = true
  | [], _ => by simp [PyData.canLayAll0]
  | d :: r, h => by
    simp only [PyData.canLayAll0, Bool.and_eq_true]
    exact ⟨h d List.mem_cons_self, lay_all fun d' hd => h d' (List.mem_cons_of_mem _ hd)⟩
theorem dep_all {n : Nat} (hn : 1 ≤ n) : ∀ {ds : List D}, (∀ d ∈ ds, d.depth ≤ n) → PyData.depthAll ds ≤ n
  | [], _ => by simp only [PyData.depthAll]; omega
  | d :: r, h => by
    have h1 := h d List.mem_cons_self
    have h2 := dep_all hn (ds := r) fun d' hd => h d' (List.mem_cons_of_mem _ hd)
    simp only [PyData.depthAll]
    omega
theorem shaped_tup {ds : List D} (h : ∀ d ∈ ds, d.canLay0 = true ∧ d.depth ≤ 60) : SeqAt.shaped (.tuple ds) = true := by
  have h1 := lay_all fun d hd => (h d hd).1
  have h2 := dep_all (by decide) fun d hd => (h d hd).2
  show (PyData.canLay0 (.tuple ds) && decide (PyData.depth (.tuple ds) ≤ 64)) = true
  rw [Bool.and_eq_true]
  exact ⟨by simp only [PyData.canLay0]; exact h1, decide_eq_true (by simp only [PyData.depth]; omega)⟩
theorem shaped_lst {ds : List D} (h : ∀ d ∈ ds, d.canLay0 = true ∧ d.depth ≤ 60) : SeqAt.shaped (.list ds) = true := by
  have h1 := lay_all fun d hd => (h d hd).1
  have h2 := dep_all (by decide) fun d hd => (h d hd).2
  show (PyData.canLay0 (.list ds) && decide (PyData.depth (.list ds) ≤ 64)) = true
  rw [Bool.and_eq_true]
  exact ⟨by simp only [PyData.canLay0]; exact h1, decide_eq_true (by simp only [PyData.depth]; omega)⟩
theorem bD_lay (p : Int) (rt : Bool) : (bD p rt).canLay0 = true ∧ (bD p rt).depth ≤ 60 := by
  have h : ∀ rt : Bool, (PyData.str (sideS rt)).canLay0 = true ∧ (PyData.str (sideS rt)).depth ≤ 1 := fun rt => by
    cases rt
    · exact ⟨by decide +kernel, by simp only [PyData.depth]; omega⟩
    · exact ⟨by decide +kernel, by simp only [PyData.depth]; omega⟩
  have h1 : PyData.canLayAll0 [.int p, .str (sideS rt)] = true := lay_all fun d hd => by
    rcases pick2 hd with rfl | rfl
    · simp only [PyData.canLay0]
    · exact (h rt).1
  have h2 : PyData.depthAll [.int p, .str (sideS rt)] ≤ 5 := dep_all (by decide) fun d hd => by
    rcases pick2 hd with rfl | rfl
    · simp only [PyData.depth]; omega
    · have := (h rt).2; omega
  exact ⟨by simp only [PyData.canLay0]; exact h1, by simp only [PyData.depth]; omega⟩
theorem borders_shaped {ds : List D} (h : AllB ds) : SeqAt.shaped (.tuple ds) = true := shaped_tup fun d hd => by
  obtain ⟨p, rt, rfl, _⟩ := h d hd
  exact bD_lay p rt
theorem eqv_tnil (ds : List D) : PyData.eqv (.tuple ds) (.tuple []) = decide (ds = []) := by
  cases ds with
  | nil => rfl
  | cons d r =>
    rw [decide_eq_false (by simp)]
    show PyData.eqvAll _ _ = false
    simp [PyData.eqvAll]
end Tp

set_option linter.all false
set_option maxRecDepth 100000
set_option maxHeartbeats 4000000
namespace Tp
open PySem PySem.Spec PyProof.Rows L2 Tl
/-! the law's own drawing and measuring -/
def AllN (ds : List D) : Prop := ∀ d ∈ ds, ∃ p rt, d = bD p rt ∧ -400000 ≤ p ∧ p ≤ 400000
theorem AllN.b {ds : List D} (h : AllN ds) : AllB ds := fun d hd => by
  obtain ⟨p, rt, e, h1, h2⟩ := h d hd
  exact ⟨p, rt, e, by omega, by omega⟩
def s_law_kind : Ct := fun ss k _ => ∃ b m, ss = [.bag b, .d (.int m)] ∧ (0 < m ∧ m ≤ 500) ∧ ∀ t j, IsKind t j → t ≤ m → k (kD t j)
def s_law_border : Ct := fun ss k _ => ∃ b t j, ss = [.bag b, .d (kD t j)] ∧ IsKind t j ∧ ∀ p rt, -400000 ≤ p → p ≤ 400000 → k (bD p rt)
def s_law_borders : Ct := fun ss k _ => ∃ b t j m, ss = [.bag b, .d (kD t j), .d (.int m)] ∧ IsKind t j ∧ (0 < m ∧ m ≤ 1000) ∧ ∀ ds, AllN ds → 1 ≤ ds.length → (ds.length : Int) ≤ m → k (.tuple ds)
def s_law_row : Ct := fun ss k _ => ∃ b t j, ss = [.bag b, .d (kD t j)] ∧ IsKind t j ∧ ∀ s e, IsRow t j s e → -100 ≤ s → s ≤ 100 → e - s ≤ 6 * (t + j) → k (rD s e)
def s_law_width : Ct := fun ss k _ => ∃ t j o p rt, ss = [.d (kD t j), .d (.int o), .d (bD p rt)] ∧ IsKind t j ∧ k (.int (width t j o p rt))
/-- going right -/
theorem mod_on {p o s n : Int} (h : 0 < s) (hn : 0 ≤ n) (hs : (p - o) % s + n < s) : (p + n - o) % s = (p - o) % s + n := by
  have h0 := mod_lo (p - o) h
  rw [show p + n - o = (p - o) + n by omega, ← mod_add_mod', mod_small (by omega) hs]
theorem mod_wrap {p o s n : Int} (h : 0 < s) (hs : (p - o) % s + n = s) : (p + n - o) % s = 0 := by
  rw [show p + n - o = (p - o) + n by omega, ← mod_add_mod', hs, Int.emod_self]
/-- going left: the rest, a whole step for none -/
def rst (p o s : Int) : Int := if (p - o) % s = 0 then s else (p - o) % s
theorem rst_bd {p o s : Int} (h : 0 < s) : 0 < rst p o s ∧ rst p o s ≤ s := by
  have h0 := mod_lo (p - o) h
  have h1 := mod_hi (p - o) h
  unfold rst; split <;> omega
theorem mod_back {p o s n : Int} (h : 0 < s) (hn : 0 < n) (hs : n ≤ rst p o s) : (p - n - o) % s = rst p o s - n := by
  have h0 := mod_lo (p - o) h
  have h1 := mod_hi (p - o) h
  rw [show p - n - o = (p - o) + (-n) by omega, ← mod_add_mod']
  unfold rst at *
  split at hs
  · rename_i e
    rw [e, if_pos rfl, mod_up (by omega) (by omega) h]; omega
  · rename_i e
    rw [if_neg e, mod_small (by omega) (by omega)]; omega
theorem width_r {t j o p : Int} (ht : 0 < t) (hj : 0 ≤ j) : width t j o p true = max 0 (t - (p - o) % (t + j)) := by
  unfold width; rw [if_pos rfl]
theorem width_l {t j o p : Int} (ht : 0 < t) (hj : 0 ≤ j) : width t j o p false = if rst p o (t + j) ≤ t then rst p o (t + j) else 0 := by
  have h0 := mod_lo (p - o) (s := t + j) (by omega)
  unfold width rst
  rw [if_neg (by decide)]
  split
  · by_cases c : j = 0
    · rw [if_pos c, if_pos (by omega)]; omega
    · rw [if_neg c, if_neg (by omega)]
  · rfl
theorem min_w {t j o m : Int} {ds : List D} (ht : 0 < t) (hj : 0 ≤ j) (hB : AllB ds) (h1 : m ∈ (ds.map (bw t j o)).filter (fun w => decide (0 < w)) ++ [t]) (h2 : ∀ y ∈ (ds.map (bw t j o)).filter (fun w => decide (0 < w)) ++ [t], m ≤ y) : m = nar t j o ds := by
  have bd : ∀ d ∈ ds, 0 ≤ bw t j o d ∧ bw t j o d ≤ t := fun d hd => by
    obtain ⟨p, rt, rfl, _⟩ := hB d hd
    rw [bw_bD]; exact width_bd ht hj
  have hmt : m ≤ t := h2 t (by simp)
  have a : m ≤ nar t j o ds := (le_nar hmt).mpr fun d hd => by
    unfold wz
    split
    · exact hmt
    · have := bd d hd
      exact h2 _ (List.mem_append_left _ (List.mem_filter.mpr ⟨List.mem_map_of_mem hd, decide_eq_true (by omega)⟩))
  have b : nar t j o ds ≤ m := by
    rcases List.mem_append.mp h1 with h | h
    · obtain ⟨h3, h4⟩ := List.mem_filter.mp h
      obtain ⟨d, hd, e⟩ := List.mem_map.mp h3
      have h4 := of_decide_eq_true h4
      have q := (le_nar (nar_le t j o ds)).mp (Int.le_refl _) d hd
      unfold wz at q
      rw [if_neg (by omega)] at q
      omega
    · rw [List.mem_singleton.mp h]; exact nar_le _ _ _ _
  omega
/-- the list of the narrowest, offset by offset -/
def narL (t j : Int) (ds : List D) (n : Nat) : List Int := (List.range n).map fun i : Nat => nar t j (0 + (i : Int)) ds
theorem narL_succ (t j : Int) (ds : List D) (n : Nat) : narL t j ds (n + 1) = narL t j ds n ++ [nar t j (0 + (n : Int)) ds] := by
  unfold narL; rw [List.range_succ, List.map_append]; rfl
theorem narL_length (t j : Int) (ds : List D) (n : Nat) : (narL t j ds n).length = n := by unfold narL; simp
theorem narL_snoc (t j : Int) (ds : List D) (n : Nat) : (narL t j ds n).map PyData.int ++ [PyData.int (nar t j (0 + (n : Int)) ds)] = (narL t j ds (n + 1)).map PyData.int := by
  rw [narL_succ, List.map_append]; rfl
theorem narL_at {t j : Int} {ds : List D} {n i : Nat} (h : i < n) : atI ((narL t j ds n).map PyData.int) (0 + (i : Int)) = some (.int (nar t j (0 + (i : Int)) ds)) := by
  refine atI_nat (by omega) ?_
  rw [show (0 + (i : Int)).toNat = i by omega]
  unfold narL
  rw [List.map_map, List.getElem?_map, List.getElem?_range h]
  rfl
def bestP (t j : Int) (ds : List D) (d : D) : Bool := match d with | .int o => decide (nar t j o ds = widest t j ds) | _ => false
def uncutP (t j : Int) (ds : List D) (d : D) : Bool := match d with | .int o => decide (nar t j o ds = t) | _ => false
theorem best_list {t j : Int} {ds : List D} (ht : 0 < t) (hj : 0 ≤ j) (hB : AllB ds) : PyData.list (((rngD 0 (t + j).toNat).filter (bestP t j ds)).map fun d => d) = intsD (good t j ds (widest t j ds)) := by
  rw [← good_list]
  refine congrArg (fun l => PyData.list (l.map fun d => d)) (List.filter_congr fun d hd => ?_)
  obtain ⟨i, hi, rfl⟩ := rngD_mem hd
  have h : nar t j (0 + (i : Int)) ds ≤ widest t j ds := by
    unfold widest
    rw [Int.zero_add]
    exact (foldl_max_ge _ _).2 _ (List.mem_map.mpr ⟨i, List.mem_range.mpr hi, rfl⟩)
  show decide _ = decide _
  rw [decide_eq_decide]
  omega
theorem uncut_list {t j : Int} {ds : List D} : PyData.list (((rngD 0 (t + j).toNat).filter (uncutP t j ds)).map fun d => d) = intsD (good t j ds t) := by
  rw [← good_list]
  refine congrArg (fun l => PyData.list (l.map fun d => d)) (List.filter_congr fun d hd => ?_)
  obtain ⟨i, hi, rfl⟩ := rngD_mem hd
  have h := nar_le t j (0 + (i : Int)) ds
  show decide _ = decide _
  rw [decide_eq_decide]
  omega
/-- even offsets -/
def evnP (t j s e : Int) (i : Nat) : Bool := decide (width t j (i : Int) s true = width t j (i : Int) e false)
def evn (t j s e : Int) : List Int := fil (evnP t j s e) (t + j).toNat
theorem evn_list (t j s e : Int) : PyData.list (((rngD 0 (t + j).toNat).filter fun d => match d with | .int o => decide (width t j o s true = width t j o e false) | _ => false).map fun d => d) = intsD (evn t j s e) := by
  unfold evn fil intsD rngD
  rw [List.map_id', List.filter_map, List.map_map]
  simp only [Int.zero_add]
  rfl
def s_even_offsets (CK CR : Addr) : Ct := fun ss k ex => ∃ kd rd, ss = [.d kd, .d rd] ∧ (isKindD kd = false → ex (.ref CK)) ∧
  ∀ t j, kd = kD t j → IsKind t j → (isRowD t j rd = false → ex (.ref CR)) ∧ ∀ s e, rd = rD s e → IsRow t j s e → k (intsD (evn t j s e))
theorem s_even_offsets_ok {CK CR : Addr} {t j s e : Int} {k : D → Prop} {ex : Value → Prop} (h1 : IsKind t j) (h2 : IsRow t j s e) (h : k (intsD (evn t j s e))) : s_even_offsets CK CR [.d (kD t j), .d (rD s e)] k ex := by
  refine ⟨_, _, rfl, fun z => absurd z (no_kind h1), ?_⟩
  intro t' j' e _
  cases e
  refine ⟨fun z => absurd z (no_row h2), ?_⟩
  intro s' e' e _
  cases e
  exact h
theorem AllN.ok {ds : List D} {m : Int} (h : AllN ds) (h1 : 1 ≤ ds.length) (h2 : (ds.length : Int) ≤ m) (h3 : m ≤ 12) : IsBorders ds := ⟨h1, by omega, h.b⟩
theorem k10 : IsKind 10 0 := ⟨by decide, by decide, by decide, by decide⟩
theorem two_b {p q : Int} {a c : Bool} (h1 : IsPlace p) (h2 : IsPlace q) : IsBorders [bD p a, bD q c] := ⟨Nat.succ_le_succ (Nat.zero_le _), (show 2 ≤ 12 by decide), fun d hd => by
  rcases pick2 hd with rfl | rfl
  · exact ⟨_, _, rfl, h1⟩
  · exact ⟨_, _, rfl, h2⟩⟩
end Tp

set_option linter.all false
set_option maxRecDepth 100000
set_option maxHeartbeats 4000000
namespace Tp
open PySem PySem.Spec PyProof.Rows L2 Tl
/-! what _law_error tells -/
theorem lcb_fm {X : Cx} {δ : List Slot} {k : D → Prop} {elt : Expr} {ifs : List Expr} {scope : Scope} {vs : List Nat} {pt : Pat} {ds : List D} (f : D → D) (p : D → Bool) (hz : ds.length ≤ 16777216)
    (body : ∀ d ∈ ds, ∃ δ' : List Slot, pt.bind d (wipeS δ vs) = some δ' ∧ owns δ' = owns δ ∧
        (∀ (s : Shared) (H : Hp) (C : Addr) (cl : List (Str × Addr)) (fp : List Addr), Pts (blkX X scope s H C cl fp) nope δ' ifs fun b => b = p d) ∧
        (p d = true → ∀ (s : Shared) (H : Hp) (C : Addr) (cl : List (Str × Addr)) (fp : List Addr), Pe (blkX X scope s H C cl fp) nope δ' elt fun y => y = f d)) (q : k (.list ((ds.filter p).map f))) : LcB X δ pt elt ifs scope vs k ds := by
  refine ⟨hz, fun j acc => acc = ((ds.take j).filter p).map f, rfl, fun j d acc hd hI => ?_, fun acc hI _ => ?_⟩
  · obtain ⟨δ', h1, h2, h3, h4⟩ := body d (List.mem_of_getElem? hd)
    refine ⟨δ', fun b => b = p d, h1, h2, h3, fun e => ?_, fun e s H C cl fp => (h4 e.symm s H C cl fp).mono fun y ey => ?_⟩
    · show acc = ((ds.take (j + 1)).filter p).map f
      rw [take_succ_get hd, List.filter_append, List.map_append, hI]
      simp [← e]
    · show acc ++ [y] = ((ds.take (j + 1)).filter p).map f
      rw [take_succ_get hd, List.filter_append, List.map_append, hI, ey]
      simp [← e]
  · have hI : acc = ((ds.take ds.length).filter p).map f := hI
    rw [List.take_length] at hI
    rw [hI]
    exact q
def rowN (d : D) : D := match d with | .tuple [n, _] => n | _ => .none
def rowB (d : D) : Bool := match d with | .tuple [_, .bool b] => b | _ => false
abbrev rowD (n : Str) (b : Bool) : D := .tuple [.str n, .bool b]
def rowsD (b1 b2 b3 b4 b5 b6 b7 b8 b9 : Bool) : List D := [rowD "InvalidKind" b1, rowD "InvalidOffset" b2, rowD "InvalidBorder" b3, rowD "InvalidRow" b4, rowD "InvalidNumber" b5, rowD "InvalidSide" b6, rowD "InvalidSeen" b7, rowD "NotPossible" b8, rowD "NothingToUndo" b9]
def errRes (b1 b2 b3 b4 b5 b6 b7 b8 b9 : Bool) : D := .list (((rowsD b1 b2 b3 b4 b5 b6 b7 b8 b9).filter rowB).map rowN ++ [.bool true])
/-- what is known of the class C of an error -/
structure EF (K : PySem.W.Frag) (C TE c1 c2 c3 c4 c5 c6 c7 c8 c9 : Addr) (b1 b2 b3 b4 b5 b6 b7 b8 b9 : Bool) : Prop where
  exm : PySem.W.exmOne K (.ref C) (.ref TE) = some true
  ec : ExcC K C
  k1 : PySem.W.kitOne K (.ref C) (.ref c1) = some b1
  k2 : PySem.W.kitOne K (.ref C) (.ref c2) = some b2
  k3 : PySem.W.kitOne K (.ref C) (.ref c3) = some b3
  k4 : PySem.W.kitOne K (.ref C) (.ref c4) = some b4
  k5 : PySem.W.kitOne K (.ref C) (.ref c5) = some b5
  k6 : PySem.W.kitOne K (.ref C) (.ref c6) = some b6
  k7 : PySem.W.kitOne K (.ref C) (.ref c7) = some b7
  k8 : PySem.W.kitOne K (.ref C) (.ref c8) = some b8
  k9 : PySem.W.kitOne K (.ref C) (.ref c9) = some b9
  kv : PySem.W.kitOne K (.ref C) (.type "ValueError") = some true
/-- the arguments behind the lambda, and what comes of them -/
def RErr (K : PySem.W.Frag) (TE c1 c2 c3 c4 c5 c6 c7 c8 c9 : Addr) (S : Ct) (ss : List Slot) (kk : D → Prop) : Prop := ∃ d1 d2 d3 d4 k ex, ss = [.d d1, .d d2, .d d3, .d d4] ∧ S ss k ex ∧ (∀ d, k d → kk (.list [])) ∧
  ∀ c, ex c → ∃ C b1 b2 b3 b4 b5 b6 b7 b8 b9, c = .ref C ∧ EF K C TE c1 c2 c3 c4 c5 c6 c7 c8 c9 b1 b2 b3 b4 b5 b6 b7 b8 b9 ∧ kk (errRes b1 b2 b3 b4 b5 b6 b7 b8 b9)
end Tp

set_option linter.all false
set_option maxRecDepth 100000
set_option maxHeartbeats 4000000
namespace Tp
open PySem PySem.Spec PyProof.Rows L2 Tl
/-- the def _law_error as it stands -/
structure ErrDef (K : PySem.W.Frag) (mg : Str → Option Value) (st : Stmt) (ps : List Str) : Prop where
  ex : ∃ (g : Addr) (oc dV kV doc pm cdv ct : Value) (od an : Option Addr) (osl : Array (Option Value)), K.lookup g = some ⟨oc, od, .func (PySem.W.fnOf "_law_error" "_law_error" (defArgs st) (defBody st) (defScope st) dV kV doc pm an cdv ct), osl⟩ ∧
    PySem.W.codeIn K cdv "_law_error" = true ∧ mg "_law_error" = some (.ref g) ∧ PySem.W.keepIn K (.ref g) = true ∧ L2.Binds K (PySem.W.fnOf "_law_error" "_law_error" (defArgs st) (defBody st) (defScope st) dV kV doc pm an cdv ct) ps []
/-- a law that makes lambdas: its code object and table are known, the table is empty at the entry -/
def spLawT (K : PySem.W.Frag) (P : Addr) : Sp := fun vs H Q _ => ∃ (a : Addr) (ns : List Int), vs = [.ref a] ∧ SqL K H a (ns.map V.int) ∧ ns.length ≤ 63 ∧ H P = some (.tbl #[]) ∧ ∀ H', Q (.bl true) H'
abbrev F0T (T : List Addr) (H : Hp) : Fm := { mu := T, h0 := H, B := T, Z := [] }
theorem gloT {P : Addr} {H : Hp} (h : H P = some (.tbl #[])) : Glo [P, P] [] H := by
  have e : ∀ b ∈ [P, P], b = P := fun b m => by
    rcases List.mem_cons.mp m with m | m
    · exact m
    · exact List.mem_singleton.mp m
  refine ⟨fun a m => ?_, fun b m => ?_, fun a m => nomatch m⟩
  · rw [List.append_nil] at m
    rw [e a m, h]; exact nc_tbl
  · rw [e b m]
    have hc : List.count P [P, P] = 2 := by simp
    rw [hc]
    refine .inr ⟨Nat.le_refl _, #[], h, True.intro, fun pos cv hc => ?_⟩
    have z : codeAmong pos [] = some cv := hc
    simp [codeAmong] at z
theorem law_fnT {P0 : Program} {w : World} {K : PySem.W.Frag} {mg : Str → Option Value} {base : Heap} {st : Stmt} {N : List Str} {n : Nat} {fa c P : Addr} {oc dV kV doc pm ct : Value} {od an : Option Addr} {osl : Array (Option Value)}
    (lk : K.lookup fa = some ⟨oc, od, .func (PySem.W.fnOf "law" "law" (defArgs st) (defBody st) (defScope st) dV kV doc pm an (.ref c) ct), osl⟩) (hcd : PySem.W.codeIn K (.ref c) "law" = true) (Sc : FnScope N ["script"] (defScope st))
    (body : ∀ (A : Around) (outer : List Env) (s : Shared) (H : Hp) (E : XK) (a : Addr) (ns : List Int), Room n (A.deeper (envOfC "law" (defScope st) s.heap.objs.size fa (.ref c))) → SqL K H a (ns.map V.int) → ns.length ≤ 63 → Glo [P, P] [] H →
      WSs (cxOf (L2N.CX P0 w) P0 w K mg base N "law" (defScope st) fa (.ref c) A outer s H E) (defBody st) (cz K (F0T [P, P] H) lawE) (start N [.ref a]) H) :
    FnOk P0 w K mg base (L2N.CX P0 w) (n + 1) fa (PySem.W.fnOf "law" "law" (defArgs st) (defBody st) (defScope st) dV kV doc pm an (.ref c) ct) ["script"] (spLawT K P) := by
  refine fn_of lk hcd Sc (fun vs H Q E h => ?_) (fun A outer s H vs Q E hr h => ⟨_, pss_self, ?_⟩)
  · obtain ⟨a, ns, rfl, _⟩ := h
    rfl
  · obtain ⟨a, ns, rfl, hS, hl, hP, q⟩ := h
    refine wss_mono (body A outer s H E a ns hr hS hl (gloT hP)) ⟨?_, ?_, ?_, ?_⟩
    · rintro σ' H' ⟨_, _, h⟩; exact h.elim
    · rintro v H' ⟨k1, g1, d, t, h⟩
      have h : d = .bool true := h
      subst h
      cases t
      exact q H'
    · rintro σ' H' ⟨_, _, h⟩; exact h.elim
    · rintro σ' H' ⟨_, _, h⟩; exact h.elim
end Tp

set_option linter.all false
set_option maxRecDepth 100000
set_option maxHeartbeats 4000000
namespace Tp
open PySem PySem.Spec PyProof.Rows L2 Tl
/-! contracts at arguments that are refused -/
theorem cnt2 (P : Addr) : ∀ p ∈ [P, P], 2 ≤ [P, P].count p := fun p m => by
  have e : p = P := by
    rcases List.mem_cons.mp m with m | m
    · exact m
    · exact List.mem_singleton.mp m
  subst e
  simp
theorem s_piece_badO {CK CO CB : Addr} {t j : Int} {od bd : D} {k : D → Prop} {ex : Value → Prop} (h1 : IsKind t j) (h : isIntD od 0 (t + j - 1) = false) (hx : ex (.ref CO)) : s_piece CK CO CB [.d (kD t j), .d od, .d bd] k ex := by
  refine ⟨_, _, _, rfl, fun z => absurd z (no_kind h1), ?_⟩
  intro t' j' e _
  cases e
  refine ⟨fun _ => hx, fun o e h2 h3 => ?_⟩
  subst e
  exact absurd h (no_int h2 h3)
theorem s_piece_badB {CK CO CB : Addr} {t j o : Int} {bd : D} {k : D → Prop} {ex : Value → Prop} (h1 : IsKind t j) (h2 : 0 ≤ o) (h3 : o ≤ t + j - 1) (h : isBorderD bd = false) (hx : ex (.ref CB)) : s_piece CK CO CB [.d (kD t j), .d (.int o), .d bd] k ex := by
  refine ⟨_, _, _, rfl, fun z => absurd z (no_kind h1), ?_⟩
  intro t' j' e _
  cases e
  refine ⟨fun z => absurd z (no_int h2 h3), fun o' e _ _ => ?_⟩
  cases e
  refine ⟨fun _ => hx, fun p rt e hp => ?_⟩
  subst e
  rw [isBorderD_iff.mpr ⟨p, rt, rfl, hp⟩] at h
  cases h
theorem s_row_pieces_badR {CK CO CR : Addr} {t j o : Int} {rd : D} {k : D → Prop} {ex : Value → Prop} (h1 : IsKind t j) (h2 : 0 ≤ o) (h3 : o ≤ t + j - 1) (h : isRowD t j rd = false) (hx : ex (.ref CR)) : s_row_pieces CK CO CR [.d (kD t j), .d (.int o), .d rd] k ex := by
  refine ⟨_, _, _, rfl, fun z => absurd z (no_kind h1), ?_⟩
  intro t' j' e _
  cases e
  refine ⟨fun z => absurd z (no_int h2 h3), fun o' e _ _ => ?_⟩
  cases e
  refine ⟨fun _ => hx, fun s e' er hp => ?_⟩
  subst er
  rw [isRowD_iff.mpr ⟨s, e', rfl, hp⟩] at h
  cases h
theorem k102 : IsKind 10 2 := ⟨by decide, by decide, by decide, by decide⟩
end Tp

set_option linter.all false
set_option maxRecDepth 100000
set_option maxHeartbeats 4000000
namespace Tp
open PySem PySem.Spec PyProof.Rows L2 Tl
/-! the parts of a row, unit by unit -/
/-- after i units of a row whose first unit has the rest r0 -/
def PartsI (t j r0 : Int) (i : Nat) (f wh wi : Int) : Prop := ∃ k rest : Int, r0 + i = rest + (t + j) * k ∧ 0 ≤ k ∧ 0 ≤ rest ∧ rest < t + j ∧ (k = 0 → r0 ≤ rest) ∧
  (rest < t → k = 0 → wi = rest - r0) ∧ (rest < t → 1 ≤ k → wi = rest) ∧ (t ≤ rest → wi = 0) ∧
  (r0 = 0 → f = 0) ∧ (t ≤ r0 → f = 0) ∧ (k = 0 → rest < t → f = 0) ∧ (0 < r0 → r0 < t → 1 ≤ k → f = t - r0) ∧ (0 < r0 → r0 < t → t ≤ rest → f = t - r0) ∧
  (r0 = 0 → rest < t → wh = k) ∧ (r0 = 0 → t ≤ rest → wh = k + 1) ∧ (0 < r0 → k = 0 → wh = 0) ∧ (0 < r0 → 1 ≤ k → rest < t → wh = k - 1) ∧ (0 < r0 → 1 ≤ k → t ≤ rest → wh = k)
theorem partsI_0 {t j r0 : Int} (ht : 0 < t) (h0 : 0 ≤ r0) (h1 : r0 < t + j) : PartsI t j r0 0 0 0 0 :=
  ⟨0, r0, by rw [Int.mul_zero]; omega, by omega, by omega, by omega, by omega, by omega, by omega, by omega, by omega, by omega, by omega, by omega, by intro a b c; exfalso; omega, by omega, by omega, by omega, by omega, by omega⟩
/-- what a unit does -/
def pstepF (t f wi r : Int) : Int := if r < t then (if r = t - 1 then (if (if r = 0 then 0 else wi) + 1 < t then (if r = 0 then 0 else wi) + 1 else f) else f) else f
def pstepH (t wh wi r : Int) : Int := if r < t then (if r = t - 1 then wh + (if (if r = 0 then 0 else wi) + 1 = t then 1 else 0) else wh) else wh
def pstepW (t wi r : Int) : Int := if r < t then (if r = t - 1 then 0 else (if r = 0 then 0 else wi) + 1) else (if r = 0 then 0 else wi)
theorem partsI_step {t j r0 f wh wi r : Int} {i : Nat} (ht : 0 < t) (hj : 0 ≤ j) (h0 : 0 ≤ r0) (h1 : r0 < t + j) (h : PartsI t j r0 i f wh wi) (hr : r = (r0 + i) % (t + j)) :
    PartsI t j r0 (i + 1) (pstepF t f wi r) (pstepH t wh wi r) (pstepW t wi r) := by
  obtain ⟨k, rest, e, a1, a2, a3, a4, b1, b2, b3, c1, c2, c3, c4, c5, d1, d2, d3, d4, d5⟩ := h
  have hr : r = rest := by rw [hr, e, Int.add_mul_emod_self_left, Int.emod_eq_of_lt a2 a3]
  subst hr
  have e2 : (t + j) * (k + 1) = (t + j) * k + (t + j) := by rw [Int.mul_add, Int.mul_one]
  unfold pstepF pstepH pstepW
  rcases Int.lt_or_le (r + 1) (t + j) with z | z
  · refine ⟨k, r + 1, by push_cast; omega, a1, by omega, z, by omega, ?_⟩
    refine ⟨?_, ?_, ?_, ?_, ?_, ?_, ?_, ?_, ?_, ?_, ?_, ?_, ?_⟩ <;> (repeat' split) <;> omega
  · refine ⟨k + 1, 0, by rw [e2]; push_cast; omega, by omega, by omega, by omega, by omega, ?_⟩
    refine ⟨?_, ?_, ?_, ?_, ?_, ?_, ?_, ?_, ?_, ?_, ?_, ?_, ?_⟩ <;> (repeat' split) <;> omega
theorem partsI_end {t j o s e f wh wi : Int} {i : Nat} (ht : 0 < t) (hj : 0 ≤ j) (hse : e - s = i) (h2 : 2 * (t + j) ≤ e - s) (h : PartsI t j ((s - o) % (t + j)) i f wh wi) :
    f = width t j o s true % t ∧ wh = whl t j o s e ∧ wi = width t j o e false % t := by
  have h0 := mod_lo (s - o) (s := t + j) (by omega)
  have h1 := mod_hi (s - o) (s := t + j) (by omega)
  have hq := mod_q (s - o) (t + j)
  obtain ⟨k, rest, e1, a1, a2, a3, a4, b1, b2, b3, c1, c2, c3, c4, c5, d1, d2, d3, d4, d5⟩ := h
  generalize hr0 : (s - o) % (t + j) = r0 at *
  generalize (s - o) / (t + j) = m at *
  have k1 : 1 ≤ k := by
    rcases Int.lt_or_le k 1 with z | z
    · have : k = 0 := by omega
      subst this
      rw [Int.mul_zero] at e1
      omega
    · exact z
  have ee : e - o = rest + (t + j) * (m + k) := by rw [Int.mul_add]; omega
  have hme : (e - o) % (t + j) = rest := by rw [ee, Int.add_mul_emod_self_left, Int.emod_eq_of_lt a2 a3]
  refine ⟨?_, ?_, ?_⟩
  · rw [width_r ht hj, hr0]
    rcases Int.lt_or_le r0 t with z | z
    · rcases Int.lt_or_le 0 r0 with y | y
      · rw [c4 y z k1, show max 0 (t - r0) = t - r0 by omega, mod_small (by omega) (by omega)]
      · rw [c1 (by omega), show max 0 (t - r0) = t by omega, Int.emod_self]
    · rw [c2 z, show max 0 (t - r0) = 0 by omega, Int.zero_emod]
  · rw [whl_eq ht hj]
    have q1 : (o - s) / (t + j) = if r0 = 0 then -m else -m - 1 := by
      split
      · exact div_of (r := 0) (by rw [Int.mul_neg]; omega) (by omega) (by omega)
      · exact div_of (r := t + j - r0) (by rw [Int.mul_sub, Int.mul_neg, Int.mul_one]; omega) (by omega) (by omega)
    have q2 : (e - o - t) / (t + j) = if t ≤ rest then m + k else m + k - 1 := by
      split
      · exact div_of (r := rest - t) (by rw [ee]; omega) (by omega) (by omega)
      · exact div_of (r := rest - t + (t + j)) (by rw [Int.mul_sub, Int.mul_one, ee]; omega) (by omega) (by omega)
    rw [q1, q2]
    rcases Int.lt_or_le 0 r0 with y | y
    · rw [if_neg (by omega)]
      rcases Int.lt_or_le rest t with z | z
      · rw [d4 y k1 z, if_neg (by omega)]; omega
      · rw [d5 y k1 z, if_pos z]; omega
    · rw [if_pos (by omega)]
      rcases Int.lt_or_le rest t with z | z
      · rw [d1 (by omega) z, if_neg (by omega)]; omega
      · rw [d2 (by omega) z, if_pos z]; omega
  · rw [width_l ht hj]
    unfold rst
    rw [hme]
    by_cases y0 : rest = 0
    · rw [if_pos y0, b2 (by omega) k1, y0]
      split
      · rw [show t + j = t by omega, Int.emod_self]
      · rw [Int.zero_emod]
    rw [if_neg y0]
    rcases Int.lt_or_le rest t with z | z
    · rw [b2 z k1]
      rw [if_pos (by omega), mod_small (by omega) z]
    · rw [b3 z]
      split
      · rw [show rest = t by omega, Int.emod_self]
      · rw [Int.zero_emod]
theorem PartsI.cast {t j r0 f wh wi f' wh' wi' : Int} {i : Nat} (h : PartsI t j r0 i f wh wi) (e1 : f = f') (e2 : wh = wh') (e3 : wi = wi') : PartsI t j r0 i f' wh' wi' := by
  subst e1 e2 e3; exact h
def s_law_parts : Ct := fun ss k _ => ∃ t j o s e, ss = [.d (kD t j), .d (.int o), .d (rD s e)] ∧ IsKind t j ∧ IsRow t j s e ∧ k (rpD t j o s e)
end Tp

set_option linter.all false
set_option maxRecDepth 100000
set_option maxHeartbeats 4000000
namespace Tp
open PySem PySem.Spec PyProof.Rows L2 Tl
/-! measured pieces -/
abbrev sD (p : Int) (rt : Bool) (w : Int) : D := .tuple [bD p rt, .int w]
def isSeenD (d : D) : Bool := match d with | .tuple [a, b] => isBorderD a && isIntD b 0 500 | _ => false
def isSeensD (d : D) : Bool := match d with
  | .tuple ds => decide (1 ≤ (ds.length : Int)) && decide ((ds.length : Int) ≤ 10) && (ds.map isSeenD).all id
  | _ => false
def AllE (ds : List D) : Prop := ∀ d ∈ ds, ∃ p rt w, d = sD p rt w ∧ IsPlace p ∧ 0 ≤ w ∧ w ≤ 500
structure IsSeens (ds : List D) : Prop where
  lo : 1 ≤ ds.length
  hi : ds.length ≤ 10
  all : AllE ds
theorem isSeenD_iff {d : D} : isSeenD d = true ↔ ∃ p rt w, d = sD p rt w ∧ IsPlace p ∧ 0 ≤ w ∧ w ≤ 500 := by
  constructor
  · intro h
    unfold isSeenD at h
    split at h
    · rw [Bool.and_eq_true] at h
      obtain ⟨p, rt, rfl, hp⟩ := isBorderD_iff.mp h.1
      obtain ⟨w, rfl, h1, h2⟩ := isIntD_iff.mp h.2
      exact ⟨p, rt, w, rfl, hp, h1, h2⟩
    · cases h
  · rintro ⟨p, rt, w, rfl, hp, h1, h2⟩
    unfold isSeenD
    rw [Bool.and_eq_true]
    exact ⟨isBorderD_iff.mpr ⟨p, rt, rfl, hp⟩, isIntD_iff.mpr ⟨w, rfl, h1, h2⟩⟩
theorem allE_iff {ds : List D} : (ds.map isSeenD).all id = true ↔ AllE ds := by
  rw [List.all_map, List.all_eq_true]
  exact ⟨fun h d hd => isSeenD_iff.mp (h d hd), fun h d hd => isSeenD_iff.mpr (h d hd)⟩
theorem isSeensD_iff {d : D} : isSeensD d = true ↔ ∃ ds, d = .tuple ds ∧ IsSeens ds := by
  constructor
  · intro h
    unfold isSeensD at h
    split at h
    · rename_i ds
      simp only [Bool.and_eq_true, decide_eq_true_eq] at h
      exact ⟨ds, rfl, by omega, by omega, allE_iff.mp h.2⟩
    · cases h
  · rintro ⟨ds, rfl, h⟩
    have h1 := h.lo; have h2 := h.hi
    simp only [isSeensD, Bool.and_eq_true, decide_eq_true_eq]
    exact ⟨⟨by omega, by omega⟩, allE_iff.mpr h.all⟩
theorem no_seens {ds : List D} (h : IsSeens ds) : ¬ isSeensD (.tuple ds) = false := by
  rw [isSeensD_iff.mpr ⟨ds, rfl, h⟩]; decide
theorem seens_by {ds : List D} (h : isSeensD (.tuple ds) = true) : IsSeens ds := by
  obtain ⟨ds', e, h⟩ := isSeensD_iff.mp h
  cases e
  exact h
theorem no_pair_seen {v : D} (h : isPairD v = false) : isSeenD v = false := by
  unfold isSeenD
  split
  · simp [isPairD] at h
  · rfl
def fitD (t j o : Int) (d : D) : Bool := match d with | .tuple [b, .int w] => decide (bw t j o b = w) | _ => false
theorem fitD_sD {t j o p w : Int} {rt : Bool} : fitD t j o (sD p rt w) = decide (width t j o p rt = w) := by
  show decide (bw t j o (bD p rt) = w) = _
  rw [bw_bD]
def offsP (t j : Int) (ds : List D) (i : Nat) : Bool := ds.all (fitD t j (i : Int))
def offs (t j : Int) (ds : List D) : List Int := fil (offsP t j ds) (t + j).toNat
theorem offs_len (t j : Int) (ds : List D) : (offs t j ds).length ≤ (t + j).toNat := fil_len _ _
theorem fit_nil {t j o : Int} {ds : List D} : ((ds.filter fun d => !fitD t j o d).map fun _ => (1 : Int)) = [] ↔ ds.all (fitD t j o) = true := by
  rw [List.map_eq_nil_iff, List.filter_eq_nil_iff, List.all_eq_true]
  constructor
  · intro h d hd
    have := h d hd
    simpa using this
  · intro h d hd
    rw [h d hd]; decide
def wrgP (t j : Int) (ds : List D) (i : Nat) : Bool := !decide (offs t j (rmv ds i) = [])
def wrg (t j : Int) (ds : List D) : List Int := if offs t j ds = [] then fil (wrgP t j ds) ds.length else []
def wrgQ (t j : Int) (ds : List D) (d : D) : Bool := match d with | .int x => wrgP t j ds x.toNat | _ => false
theorem wrg_list (t j : Int) (ds : List D) (n : Nat) : PyData.list (((rngD 0 n).filter (wrgQ t j ds)).map fun d => d) = intsD (fil (wrgP t j ds) n) := by
  unfold fil intsD rngD
  rw [List.map_id', List.filter_map, List.map_map]
  simp only [Int.zero_add]
  rfl
theorem rmv_allE {ds : List D} {i : Nat} (h : AllE ds) : AllE (rmv ds i) := fun d hd => by
  unfold rmv at hd
  rcases List.mem_append.mp hd with hd | hd
  · exact h d (List.mem_of_mem_take hd)
  · exact h d (List.mem_of_mem_drop hd)
def tls (j : Int) (ds : List D) (lo : Int) (n : Nat) : List D := (List.range n).flatMap fun i : Nat => ((offs (lo + (i : Int)) j ds).map PyData.int).map fun d => .tuple [.int (lo + (i : Int)), d]
theorem tls_succ (j : Int) (ds : List D) (lo : Int) (n : Nat) : tls j ds lo (n + 1) = tls j ds lo n ++ ((offs (lo + (n : Int)) j ds).map PyData.int).map fun d => .tuple [.int (lo + (n : Int)), d] := by
  unfold tls
  rw [List.range_succ, List.flatMap_append]
  simp
theorem tls_len {j : Int} {ds : List D} {lo : Int} {n : Nat} (h0 : 1 ≤ lo) (h1 : lo + n ≤ 501) (hj : 0 ≤ j) (hj2 : j ≤ 20) : (tls j ds lo n).length ≤ 520 * n := by
  induction n with
  | zero => exact Nat.le_refl 0
  | succ n ih =>
    have ih := ih (by omega)
    rw [tls_succ, List.length_append, List.length_map, List.length_map]
    have := offs_len (lo + (n : Int)) j ds
    omega
theorem tls_shaped (j : Int) (ds : List D) (lo : Int) (n : Nat) : SeqAt.shaped (.list (tls j ds lo n)) = true := shaped_lst fun d hd => by
  unfold tls at hd
  obtain ⟨i, _, hd⟩ := List.mem_flatMap.mp hd
  obtain ⟨d2, hd2, rfl⟩ := List.mem_map.mp hd
  obtain ⟨o, _, rfl⟩ := List.mem_map.mp hd2
  have h1 : PyData.canLayAll0 [.int (lo + (i : Int)), .int o] = true := lay_all fun d hd => by
    rcases pick2 hd with rfl | rfl <;> simp only [PyData.canLay0]
  have h2 : PyData.depthAll [.int (lo + (i : Int)), .int o] ≤ 5 := dep_all (by decide) fun d hd => by
    rcases pick2 hd with rfl | rfl <;> (simp only [PyData.depth]; omega)
  exact ⟨by simp only [PyData.canLay0]; exact h1, by simp only [PyData.depth]; omega⟩
def s_is_seen : Ct := fun ss k _ => ∃ v, ss = [.d v] ∧ k (.bool (isSeenD v))
def s_need_seen (C : Addr) : Ct := fun ss k ex => ∃ v, ss = [.d v] ∧ (isSeensD v = true → k .none) ∧ (isSeensD v = false → ex (.ref C))
def s_offsets_of : Ct := fun ss k _ => ∃ t j ds, ss = [.d (kD t j), .d (.tuple ds)] ∧ IsKind t j ∧ AllE ds ∧ ds.length ≤ 1000 ∧ k (intsD (offs t j ds))
abbrev s_law_fitting : Ct := s_offsets_of
def s_ks (CK CS : Addr) (r : Int → Int → List D → D) : Ct := fun ss k ex => ∃ kd sd, ss = [.d kd, .d sd] ∧ (isKindD kd = false → ex (.ref CK)) ∧
  ∀ t j, kd = kD t j → IsKind t j → (isSeensD sd = false → ex (.ref CS)) ∧ ∀ ds, sd = .tuple ds → IsSeens ds → k (r t j ds)
abbrev s_offsets_for (CK CS : Addr) : Ct := s_ks CK CS fun t j ds => intsD (offs t j ds)
abbrev s_wrong_widths (CK CS : Addr) : Ct := s_ks CK CS fun t j ds => intsD (wrg t j ds)
theorem s_ks_ok {CK CS : Addr} {r : Int → Int → List D → D} {t j : Int} {ds : List D} {k : D → Prop} {ex : Value → Prop} (h1 : IsKind t j) (h2 : IsSeens ds) (h : k (r t j ds)) : s_ks CK CS r [.d (kD t j), .d (.tuple ds)] k ex := by
  refine ⟨_, _, rfl, fun z => absurd z (no_kind h1), ?_⟩
  intro t' j' e _
  cases e
  refine ⟨fun z => absurd z (no_seens h2), ?_⟩
  intro ds' e _
  cases e
  exact h
theorem s_ks_bad {CK CS : Addr} {r : Int → Int → List D → D} {t j : Int} {sd : D} {k : D → Prop} {ex : Value → Prop} (h1 : IsKind t j) (h2 : isSeensD sd = false) (hx : ex (.ref CS)) : s_ks CK CS r [.d (kD t j), .d sd] k ex := by
  refine ⟨_, _, rfl, fun z => absurd z (no_kind h1), ?_⟩
  intro t' j' e _
  cases e
  refine ⟨fun _ => hx, ?_⟩
  intro ds' e h
  subst e
  exact absurd h2 (no_seens h)
def s_tiles_for (CN CS : Addr) : Ct := fun ss k ex => ∃ jd sd lod hid, ss = [.d jd, .d sd, .d lod, .d hid] ∧ (isIntD jd 0 20 = false → ex (.ref CN)) ∧
  ∀ j, jd = .int j → 0 ≤ j → j ≤ 20 → (isSeensD sd = false → ex (.ref CS)) ∧ ∀ ds, sd = .tuple ds → IsSeens ds → (isIntD lod 1 500 = false → ex (.ref CN)) ∧
  ∀ lo, lod = .int lo → 1 ≤ lo → lo ≤ 500 → (isIntD hid lo 500 = false → ex (.ref CN)) ∧ ∀ hi, hid = .int hi → lo ≤ hi → hi ≤ 500 → k (.list (tls j ds lo (hi + 1 - lo).toNat))
theorem s_tiles_for_ok {CN CS : Addr} {j lo hi : Int} {ds : List D} {k : D → Prop} {ex : Value → Prop} (h0 : 0 ≤ j) (h1 : j ≤ 20) (h2 : IsSeens ds) (h3 : 1 ≤ lo) (h5 : lo ≤ hi) (h6 : hi ≤ 500) (h : k (.list (tls j ds lo (hi + 1 - lo).toNat))) :
    s_tiles_for CN CS [.d (.int j), .d (.tuple ds), .d (.int lo), .d (.int hi)] k ex := by
  refine ⟨_, _, _, _, rfl, fun z => absurd z (no_int h0 h1), ?_⟩
  intro j' e _ _
  cases e
  refine ⟨fun z => absurd z (no_seens h2), ?_⟩
  intro ds' e _
  cases e
  refine ⟨fun z => absurd z (no_int h3 (by omega)), ?_⟩
  intro lo' e _ _
  cases e
  refine ⟨fun z => absurd z (no_int h5 h6), ?_⟩
  intro hi' e _ _
  cases e
  exact h
theorem s_tiles_for_bad {CN CS : Addr} {j : Int} {sd lod hid : D} {k : D → Prop} {ex : Value → Prop} (h0 : 0 ≤ j) (h1 : j ≤ 20) (h2 : isSeensD sd = false) (hx : ex (.ref CS)) : s_tiles_for CN CS [.d (.int j), .d sd, .d lod, .d hid] k ex := by
  refine ⟨_, _, _, _, rfl, fun z => absurd z (no_int h0 h1), ?_⟩
  intro j' e _ _
  cases e
  refine ⟨fun _ => hx, ?_⟩
  intro ds' e h
  subst e
  exact absurd h2 (no_seens h)
/-- the law's own pieces -/
def AllQS (ds : List D) : Prop := ∀ d ∈ ds, ∃ p rt w, d = sD p rt w ∧ -400000 ≤ p ∧ p ≤ 400000 ∧ 0 ≤ w ∧ w ≤ 500
theorem AllQS.nil : AllQS [] := fun _ h => nomatch h
theorem AllQS.e {ds : List D} (h : AllQS ds) : AllE ds := fun d hd => by
  obtain ⟨p, rt, w, e, h1, h2, h3, h4⟩ := h d hd
  exact ⟨p, rt, w, e, ⟨by omega, by omega⟩, h3, h4⟩
theorem AllQS.snoc {ds : List D} {p w : Int} {rt : Bool} (h : AllQS ds) (h1 : -400000 ≤ p) (h2 : p ≤ 400000) (h3 : 0 ≤ w) (h4 : w ≤ 500) : AllQS (ds ++ [sD p rt w]) := fun d hd => by
  rcases List.mem_append.mp hd with hd | hd
  · exact h d hd
  · exact ⟨p, rt, w, List.mem_singleton.mp hd, h1, h2, h3, h4⟩
end Tp

set_option linter.all false
set_option maxRecDepth 100000
set_option maxHeartbeats 4000000
namespace Tp
open PySem PySem.Spec PyProof.Rows L2 Tl
/-! _law_error and _law_refused as defs of their own -/
def s_err (P : Program) (w : World) (K : PySem.W.Frag) (mg : Str → Option Value) (base : Heap) (m : Nat) (TE c1 c2 c3 c4 c5 c6 c7 c8 c9 : Addr) : Ct := fun ss k0 _ => ∃ f c' q ob S d1 d2 d3 d4 k ex, ss = [.fn f c' q ob, .d d1, .d d2, .d d3, .d d4] ∧ LamFn P w K mg base m f c' q ob S ∧ S [.d d1, .d d2, .d d3, .d d4] k ex ∧ (∀ d, k d → k0 (.list [])) ∧
  ∀ c, ex c → ∃ C b1 b2 b3 b4 b5 b6 b7 b8 b9, c = .ref C ∧ EF K C TE c1 c2 c3 c4 c5 c6 c7 c8 c9 b1 b2 b3 b4 b5 b6 b7 b8 b9 ∧ k0 (errRes b1 b2 b3 b4 b5 b6 b7 b8 b9)
theorem errRes_shaped (b1 b2 b3 b4 b5 b6 b7 b8 b9 : Bool) : SeqAt.shaped (errRes b1 b2 b3 b4 b5 b6 b7 b8 b9) = true := shaped_lst fun d hd => by
  have hs : ∀ s ∈ [("InvalidKind" : Str), "InvalidOffset", "InvalidBorder", "InvalidRow", "InvalidNumber", "InvalidSide", "InvalidSeen", "NotPossible", "NothingToUndo"], (PyData.str s).canLay0 = true := by decide +kernel
  rcases List.mem_append.mp hd with hd | hd
  · obtain ⟨r, hr, rfl⟩ := List.mem_map.mp hd
    have hr := (List.mem_filter.mp hr).1
    unfold rowsD at hr
    simp only [List.mem_cons, List.not_mem_nil, or_false] at hr
    rcases hr with rfl | rfl | rfl | rfl | rfl | rfl | rfl | rfl | rfl <;> exact ⟨hs _ (by simp), by simp only [rowN, PyData.depth]; omega⟩
  · rw [List.mem_singleton.mp hd]
    exact ⟨rfl, by simp only [PyData.depth]; omega⟩
def s_refd (P : Program) (w : World) (K : PySem.W.Frag) (mg : Str → Option Value) (base : Heap) (m : Nat) (TE c1 c2 c3 c4 c5 c6 c7 c8 c9 : Addr) : Ct := fun ss k0 _ => ∃ nm f c' q ob S d1 d2 d3 d4 k ex, ss = [.d (.str nm), .fn f c' q ob, .d d1, .d d2, .d d3, .d d4] ∧ SeqAt.shaped (.list [.str nm, .bool true]) = true ∧ LamFn P w K mg base m f c' q ob S ∧ S [.d d1, .d d2, .d d3, .d d4] k ex ∧ (∀ d, k d → k0 (.bool (PyData.eqv (.list []) (.list [.str nm, .bool true])))) ∧
  ∀ c, ex c → ∃ C b1 b2 b3 b4 b5 b6 b7 b8 b9, c = .ref C ∧ EF K C TE c1 c2 c3 c4 c5 c6 c7 c8 c9 b1 b2 b3 b4 b5 b6 b7 b8 b9 ∧ k0 (.bool (PyData.eqv (errRes b1 b2 b3 b4 b5 b6 b7 b8 b9) (.list [.str nm, .bool true])))
/-! all good offsets, by the pieces -/
def inlD (l : Int) (d : D) : Bool := match d with | .int w => inl l w | _ => false
def goodP (t j : Int) (ds : List D) (l : Int) (i : Nat) : Bool := decide (l ≤ nar t j (i : Int) ds)
theorem good_fil (t j : Int) (ds : List D) (l : Int) : good t j ds l = fil (goodP t j ds l) (t + j).toNat := by
  unfold good fil
  rw [List.filter_map]
  rfl
theorem widths_list {t j o l : Int} {ds : List D} : PyData.list (((ds.map fun d => PyData.int (bw t j o d)).filter (inlD l)).map fun d => d) = intsD ((ds.map (bw t j o)).filter (inl l)) := by
  rw [show ds.map (fun d => PyData.int (bw t j o d)) = (ds.map (bw t j o)).map PyData.int by rw [List.map_map]; rfl, fm_ints (p' := inl l) (f' := fun w => w) _ (fun _ => rfl) (fun _ => rfl), List.map_id']
theorem good_nil {t j o l : Int} {ds : List D} (ht : 0 < t) (hj : 0 ≤ j) (hl : l ≤ t) (hB : AllB ds) : (ds.map (bw t j o)).filter (inl l) = [] ↔ l ≤ nar t j o ds := by
  rw [le_nar hl, List.filter_eq_nil_iff]
  constructor
  · intro h d hd
    obtain ⟨p, rt, rfl, _⟩ := hB d hd
    have z := h _ (List.mem_map.mpr ⟨_, hd, rfl⟩)
    rw [bw_bD] at z
    exact (not_inl ht hj hl).mp (by simpa using z)
  · intro h w hw
    obtain ⟨d, hd, rfl⟩ := List.mem_map.mp hw
    obtain ⟨p, rt, rfl, _⟩ := hB d hd
    rw [bw_bD, (not_inl ht hj hl).mpr (h _ hd)]
    decide
def s_law_good : Ct := fun ss k _ => ∃ t j ds l, ss = [.d (kD t j), .d (.tuple ds), .d (.int l)] ∧ IsKind t j ∧ AllB ds ∧ ds.length ≤ 1000 ∧ l ≤ t ∧ k (intsD (good t j ds l))
def gtlQ (j : Int) (ds : List D) (l : Int) (d : D) : Bool := match d with | .int t => !decide (good t j ds l = []) | _ => false
theorem gtl_listQ (j : Int) (ds : List D) (l lo hi : Int) : PyData.list (((rngD lo (hi + 1 - lo).toNat).filter (gtlQ j ds l)).map fun d => d) = intsD (gtl j ds l lo hi) := gtl_list j ds l lo hi
/-- where one more border leaves a good offset -/
def freeQ (t j : Int) (ds : List D) (l : Int) (rt : Bool) (i : Nat) : Bool := !decide (good t j (ds ++ [bD (i : Int) rt]) l = [])
theorem free_eq {t j l : Int} {ds : List D} {rt : Bool} (ht : 0 < t) (hj : 0 ≤ j) (hl : l ≤ t) : frees t j ds l rt = fil (freeQ t j ds l rt) (t + j).toNat := by
  refine sorted_ext (fil_sorted _ _) (fil_sorted _ _) fun o => ?_
  have key : ∀ i : Nat, i < (t + j).toNat → (freeP t j ds l rt i = true ↔ freeQ t j ds l rt i = true) := fun i hi => by
    have h := mem_frees (t := t) (j := j) (l := l) (r := (i : Int)) (m := 0) (ds := ds) (rt := rt) ht hj hl (by omega) (by omega)
    rw [Int.mul_zero, Int.add_zero] at h
    have h2 : (i : Int) ∈ frees t j ds l rt ↔ freeP t j ds l rt i = true := by
      unfold frees
      rw [mem_fil]
      constructor
      · rintro ⟨n, _, hn, e⟩
        have : n = i := by omega
        subst this; exact hn
      · intro hn; exact ⟨i, hi, hn, rfl⟩
    rw [← h2, h]
    unfold freeQ
    simp
  unfold frees
  rw [mem_fil, mem_fil]
  constructor
  · rintro ⟨i, hi, h, e⟩; exact ⟨i, hi, (key i hi).mp h, e⟩
  · rintro ⟨i, hi, h, e⟩; exact ⟨i, hi, (key i hi).mpr h, e⟩
/-! more contracts at arguments that are refused -/
theorem s_kbl_badL {CK CB CN : Addr} {r : Int → Int → List D → Int → D} {t j : Int} {ds : List D} {ld : D} {k : D → Prop} {ex : Value → Prop} (h1 : IsKind t j) (h2 : IsBorders ds) (h : isIntD ld 1 t = false) (hx : ex (.ref CN)) : s_kbl CK CB CN r [.d (kD t j), .d (.tuple ds), .d ld] k ex := by
  refine ⟨_, _, _, rfl, fun z => absurd z (no_kind h1), ?_⟩
  intro t' j' e _
  cases e
  refine ⟨fun z => absurd z (no_borders h2), ?_⟩
  intro ds' e _
  cases e
  refine ⟨fun _ => hx, fun l e a b => ?_⟩
  subst e
  exact absurd h (no_int a b)
theorem s_kbl_badB {CK CB CN : Addr} {r : Int → Int → List D → Int → D} {t j : Int} {bd ld : D} {k : D → Prop} {ex : Value → Prop} (h1 : IsKind t j) (h : isBordersD bd = false) (hx : ex (.ref CB)) : s_kbl CK CB CN r [.d (kD t j), .d bd, .d ld] k ex := by
  refine ⟨_, _, _, rfl, fun z => absurd z (no_kind h1), ?_⟩
  intro t' j' e _
  cases e
  refine ⟨fun _ => hx, fun ds e hB => ?_⟩
  subst e
  exact absurd h (no_borders hB)
theorem s_good_tiles_badJ {CB CN : Addr} {jd bd ld lod hid : D} {k : D → Prop} {ex : Value → Prop} (h : isIntD jd 0 20 = false) (hx : ex (.ref CN)) : s_good_tiles CB CN [.d jd, .d bd, .d ld, .d lod, .d hid] k ex := by
  refine ⟨_, _, _, _, _, rfl, fun _ => hx, fun j e a b => ?_⟩
  subst e
  exact absurd h (no_int a b)
theorem s_good_tiles_badL {CB CN : Addr} {j : Int} {ds : List D} {ld lod hid : D} {k : D → Prop} {ex : Value → Prop} (h0 : 0 ≤ j) (h1 : j ≤ 20) (h2 : IsBorders ds) (h : isIntD ld 1 500 = false) (hx : ex (.ref CN)) : s_good_tiles CB CN [.d (.int j), .d (.tuple ds), .d ld, .d lod, .d hid] k ex := by
  refine ⟨_, _, _, _, _, rfl, fun z => absurd z (no_int h0 h1), ?_⟩
  intro j' e _ _
  cases e
  refine ⟨fun z => absurd z (no_borders h2), ?_⟩
  intro ds' e _
  cases e
  refine ⟨fun _ => hx, fun l e a b => ?_⟩
  subst e
  exact absurd h (no_int a b)
theorem s_good_tiles_badLo {CB CN : Addr} {j l : Int} {ds : List D} {lod hid : D} {k : D → Prop} {ex : Value → Prop} (h0 : 0 ≤ j) (h1 : j ≤ 20) (h2 : IsBorders ds) (h3 : 1 ≤ l) (h4 : l ≤ 500) (h : isIntD lod l 500 = false) (hx : ex (.ref CN)) : s_good_tiles CB CN [.d (.int j), .d (.tuple ds), .d (.int l), .d lod, .d hid] k ex := by
  refine ⟨_, _, _, _, _, rfl, fun z => absurd z (no_int h0 h1), ?_⟩
  intro j' e _ _
  cases e
  refine ⟨fun z => absurd z (no_borders h2), ?_⟩
  intro ds' e _
  cases e
  refine ⟨fun z => absurd z (no_int h3 h4), ?_⟩
  intro l' e _ _
  cases e
  refine ⟨fun _ => hx, fun lo e a b => ?_⟩
  subst e
  exact absurd h (no_int a b)
theorem s_good_tiles_badHi {CB CN : Addr} {j l lo : Int} {ds : List D} {hid : D} {k : D → Prop} {ex : Value → Prop} (h0 : 0 ≤ j) (h1 : j ≤ 20) (h2 : IsBorders ds) (h3 : 1 ≤ l) (h4 : l ≤ lo) (h5 : lo ≤ 500) (h : isIntD hid lo 500 = false) (hx : ex (.ref CN)) : s_good_tiles CB CN [.d (.int j), .d (.tuple ds), .d (.int l), .d (.int lo), .d hid] k ex := by
  refine ⟨_, _, _, _, _, rfl, fun z => absurd z (no_int h0 h1), ?_⟩
  intro j' e _ _
  cases e
  refine ⟨fun z => absurd z (no_borders h2), ?_⟩
  intro ds' e _
  cases e
  refine ⟨fun z => absurd z (no_int h3 (by omega)), ?_⟩
  intro l' e _ _
  cases e
  refine ⟨fun z => absurd z (no_int h4 h5), ?_⟩
  intro lo' e _ _
  cases e
  refine ⟨fun _ => hx, fun hi e a b => ?_⟩
  subst e
  exact absurd h (no_int a b)
theorem s_free_places_badS {CK CB CN CS : Addr} {t j l : Int} {ds : List D} {sd : D} {k : D → Prop} {ex : Value → Prop} (h1 : IsKind t j) (h2 : IsBorders ds) (h3 : 1 ≤ l) (h4 : l ≤ t) (h : isSideD sd = false) (hx : ex (.ref CS)) : s_free_places CK CB CN CS [.d (kD t j), .d (.tuple ds), .d (.int l), .d sd] k ex := by
  refine ⟨_, _, _, _, rfl, fun z => absurd z (no_kind h1), ?_⟩
  intro t' j' e _
  cases e
  refine ⟨fun z => absurd z (no_borders h2), ?_⟩
  intro ds' e _
  cases e
  refine ⟨fun z => absurd z (no_int h3 h4), ?_⟩
  intro l' e _ _
  cases e
  refine ⟨fun _ => hx, fun rt e => ?_⟩
  subst e
  exact absurd h (no_side rt)
end Tp

set_option linter.all false
set_option maxRecDepth 100000
set_option maxHeartbeats 4000000
namespace Tp
open PySem PySem.Spec PyProof.Rows L2 Tl
/-! shifted rows, by the pieces -/
def goodsP (t j : Int) (ds : List D) (l n : Int) (i : Nat) : Bool := decide (l ≤ nars t j (i : Int) ds n)
theorem goods_fil (t j : Int) (ds : List D) (l n : Int) : goods t j ds l n = fil (goodsP t j ds l n) (t + j).toNat := by
  unfold goods fil
  rw [List.filter_map]
  rfl
def someD (t j o n : Int) (d : D) : D := match d with | .int a => .int ((o + a * (t + j) / n) % (t + j)) | _ => .none
def notInD (gs : List Int) (d : D) : Bool := !inD d (gs.map .int)
theorem some_list {t j o n : Int} {gs : List Int} : PyData.list ((((rngD 0 n.toNat).map (someD t j o n)).filter (notInD gs)).map fun d => d) = intsD (((List.range n.toNat).map fun i : Nat => turnO t j o n i).filter fun x => !decide (x ∈ gs)) := by
  have e : (rngD 0 n.toNat).map (someD t j o n) = ((List.range n.toNat).map fun i : Nat => turnO t j o n i).map PyData.int := by
    unfold rngD
    rw [List.map_map, List.map_map]
    rfl
  rw [e, fm_ints (p' := fun x => !decide (x ∈ gs)) (f' := fun w => w) _ (fun _ => rfl) (fun i => by unfold notInD; rw [inD_ints]), List.map_id']
theorem some_nil {t j o l n : Int} {ds : List D} (hs : 0 < t + j) (hl : l ≤ t) : ((List.range n.toNat).map fun i : Nat => turnO t j o n i).filter (fun x => !decide (x ∈ good t j ds l)) = [] ↔ l ≤ nars t j o ds n := by
  rw [le_nars hl, List.filter_eq_nil_iff]
  constructor
  · intro h i hi
    have z := h _ (List.mem_map.mpr ⟨i, List.mem_range.mpr hi, rfl⟩)
    have z : turnO t j o n i ∈ good t j ds l := by simpa using z
    exact (mem_good.mp z).2
  · intro h x hx
    obtain ⟨i, hi, rfl⟩ := List.mem_map.mp hx
    have z : turnO t j o n i ∈ good t j ds l := mem_good.mpr ⟨⟨mod_lo _ hs, mod_hi _ hs⟩, h i (List.mem_range.mp hi)⟩
    simp [z]
theorem wids_props {t j n : Int} {ds : List D} (ht : 0 < t) (hj : 0 ≤ j) (hn : 1 ≤ n) (hm : (t + j) % n = 0) (hB : AllB ds) : 1 ≤ wids t j ds n ∧ wids t j ds n ≤ t ∧ goods t j ds (wids t j ds n) n ≠ [] ∧ goods t j ds (wids t j ds n + 1) n = [] := by
  obtain ⟨q1, q2, q3⟩ := div_bd hn (show 0 < t + j by omega) hm
  have e := wids_more (t := t) (j := j) (n := n) (q := (t + j) / n) hB (by omega) (by omega) q3
  have p1 : 1 ≤ wids t j ds n := by
    have z : 1 ≤ nars t j ((0 : Nat) : Int) ds n := (le_nars (by omega)).mpr fun i hi => by have := nar_pos (o := turnO t j ((0 : Nat) : Int) n i) ht hj hB; omega
    have y := (foldl_max_ge ((List.range ((t + j) / n).toNat).map fun i : Nat => nars t j (i : Int) ds n) 0).2 _ (List.mem_map.mpr ⟨0, List.mem_range.mpr (by omega), rfl⟩)
    unfold wids
    omega
  have p2 : wids t j ds n ≤ t := by rw [e]; exact widest_le (by omega)
  refine ⟨p1, p2, ?_, ?_⟩
  · rw [goods_more hB]
    exact (le_widest p1).mp (by rw [← e]; exact Int.le_refl _)
  · rw [goods_more hB]
    rcases Classical.em (good t j (moreL t j ds n n.toNat) (wids t j ds n + 1) = []) with z | z
    · exact z
    · have y := (le_widest (show 1 ≤ wids t j ds n + 1 by omega)).mpr z
      rw [← e] at y
      omega
theorem s_good_shifted_badN {CK CB CN : Addr} {t j l : Int} {ds : List D} {nd : D} {k : D → Prop} {ex : Value → Prop} (h1 : IsKind t j) (h2 : IsBorders ds) (h3 : 1 ≤ l) (h4 : l ≤ t) (h : isShiftD t j nd = false) (hx : ex (.ref CN)) : s_good_shifted CK CB CN [.d (kD t j), .d (.tuple ds), .d (.int l), .d nd] k ex := by
  refine ⟨_, _, _, _, rfl, fun z => absurd z (no_kind h1), ?_⟩
  intro t' j' e _
  cases e
  refine ⟨fun z => absurd z (no_borders h2), ?_⟩
  intro ds' e _
  cases e
  refine ⟨fun z => absurd z (no_int h3 h4), ?_⟩
  intro l' e _ _
  cases e
  refine ⟨fun _ => hx, fun n e a b c => ?_⟩
  subst e
  exact absurd h (no_shift a b c)
theorem s_widest_shifted_badN {CK CB CN : Addr} {t j : Int} {ds : List D} {nd : D} {k : D → Prop} {ex : Value → Prop} (h1 : IsKind t j) (h2 : IsBorders ds) (h : isShiftD t j nd = false) (hx : ex (.ref CN)) : s_widest_shifted CK CB CN [.d (kD t j), .d (.tuple ds), .d nd] k ex := by
  refine ⟨_, _, _, rfl, fun z => absurd z (no_kind h1), ?_⟩
  intro t' j' e _
  cases e
  refine ⟨fun z => absurd z (no_borders h2), ?_⟩
  intro ds' e _
  cases e
  refine ⟨fun _ => hx, fun n e a b c => ?_⟩
  subst e
  exact absurd h (no_shift a b c)
theorem not_shift {t j n : Int} (h : ¬ (t + j) % n = 0) : isShiftD t j (.int n) = false := by
  show (decide (1 ≤ n) && decide (n ≤ 6) && decide ((t + j) % n = 0)) = false
  rw [decide_eq_false h, Bool.and_false]
end Tp

set_option linter.all false
set_option maxRecDepth 100000
set_option maxHeartbeats 4000000
namespace Tl
open PySem PySem.Spec PyProof.Rows L2
theorem pe_isn {X : Cx} {ex : Value → Prop} {δ : List Slot} {a b : Expr} {pos : Pos} {k : D → Prop} (h : Pe X ex δ a fun x => Pe X ex δ b fun y => ∃ c d : Bool, x = .bool c ∧ y = .bool d ∧ k (.bool (!decide (c = d)))) : Pe X ex δ (.Compare a [.IsNot] [b] pos) k :=
  pe_cm op_notBl (nomark _) (h.mono fun _ h => h.mono fun _ ⟨c, d, e1, e2, q⟩ M H v u hM t t' Q hq => by
    subst e1 e2
    cases t
    cases t'
    exact ⟨c, d, rfl, rfl, hq _ _ _ (.refl H) (.bl _) q⟩)
theorem pt_isn {X : Cx} {ex : Value → Prop} {δ : List Slot} {a b : Expr} {pos : Pos} {k : Bool → Prop} (h : Pe X ex δ a fun x => Pe X ex δ b fun y => ∃ c d : Bool, x = .bool c ∧ y = .bool d ∧ k (!decide (c = d))) : Pt X ex δ (.Compare a [.IsNot] [b] pos) k :=
  pt_cm op_notBl (nomark _) (h.mono fun _ h => h.mono fun _ ⟨c, d, e1, e2, q⟩ M H v u hM t t' Q hq => by
    subst e1 e2
    cases t
    cases t'
    exact ⟨c, d, rfl, rfl, hq _ _ _ (.refl H) (.bl _) ⟨_, rfl, q⟩⟩)
end Tl
namespace Tp
open PySem PySem.Spec PyProof.Rows L2 Tl
/-! values with one part changed -/
def AllPk (ps : List D) : Prop := ∀ d ∈ ps, ∃ r : Int, d = .int r ∧ 0 ≤ r
theorem AllPk.drop {ps : List D} (h : AllPk ps) (n : Nat) : AllPk (ps.drop n) := fun d hd => h d (List.mem_of_mem_drop hd)
theorem pk2 {ps : List D} (h : AllPk ps) (hl : 2 ≤ ps.length) : ∃ (x y : Int) (r : List D), ps = .int x :: .int y :: r ∧ 0 ≤ x ∧ 0 ≤ y := by
  match ps, hl with
  | a :: b :: r, _ =>
    obtain ⟨x, rfl, hx⟩ := h a (by simp)
    obtain ⟨y, rfl, hy⟩ := h b (by simp)
    exact ⟨x, y, r, rfl, hx, hy⟩
theorem pk_at {ps : List D} (h : AllPk ps) {n : Int} (h0 : 0 ≤ n) (hl : n < ps.length) : ∃ x : Int, atI ps n = some (.int x) ∧ 0 ≤ x := by
  have hk : n.toNat < ps.length := by omega
  obtain ⟨x, e, hx⟩ := h _ (List.getElem_mem hk)
  exact ⟨x, atI_nat h0 (by rw [List.getElem?_eq_getElem hk, e]), hx⟩
def isSeqD (d : D) : Bool := match d with | .tuple _ => true | .list _ => true | _ => false
theorem seq_or (d : D) : ((match d with | .tuple _ => true | _ => false) || (match d with | .list _ => true | _ => false)) = isSeqD d := by cases d <;> rfl
def s_law_odd : Ct := fun ss k _ => ∃ ps, ss = [.d (.list ps)] ∧ AllPk ps ∧ 2 ≤ ps.length ∧ ∀ d, k d
def s_law_spoilt0 : Ct := fun ss k _ => ∃ v ps, ss = [.d v, .d (.list ps)] ∧ isSeqD v = false ∧ AllPk ps ∧ 3 ≤ ps.length ∧ ∀ d, k d
def s_law_spoilt : Ct := fun ss k _ => ∃ xs ps, ss = [.d (.tuple xs), .d (.list ps)] ∧ (∀ d ∈ xs, isSeqD d = false) ∧ 1 ≤ xs.length ∧ xs.length ≤ 100 ∧ AllPk ps ∧ 13 ≤ ps.length ∧ ps.length ≤ 100 ∧ ∀ d, k d
def s_law_from : Ct := fun ss k _ => ∃ v lo hi, ss = [.d v, .d (.int lo), .d (.int hi)] ∧ k (.bool (isIntD v lo hi))
def s_law_kind_good : Ct := fun ss k _ => ∃ v, ss = [.d v] ∧ k (.bool (isKindD v))
def s_law_border_good : Ct := fun ss k _ => ∃ v, ss = [.d v] ∧ k (.bool (isBorderD v))
def s_law_row_good : Ct := fun ss k _ => ∃ t j v, ss = [.d (kD t j), .d v] ∧ IsKind t j ∧ k (.bool (isRowD t j v))
def s_is_row (CK : Addr) : Ct := fun ss k ex => ∃ kd rd, ss = [.d kd, .d rd] ∧ (isKindD kd = false → ex (.ref CK)) ∧ ∀ t j, kd = kD t j → IsKind t j → k (.bool (isRowD t j rd))
theorem s_is_row_ok {CK : Addr} {t j : Int} {rd : D} {k : D → Prop} {ex : Value → Prop} (h1 : IsKind t j) (h : k (.bool (isRowD t j rd))) : s_is_row CK [.d (kD t j), .d rd] k ex :=
  ⟨_, _, rfl, fun z => absurd z (no_kind h1), fun t' j' e _ => by cases e; exact h⟩
theorem s_is_row_bad {CK : Addr} {kd rd : D} {k : D → Prop} {ex : Value → Prop} (h : isKindD kd = false) (hx : ex (.ref CK)) : s_is_row CK [.d kd, .d rd] k ex :=
  ⟨_, _, rfl, fun _ => hx, fun t j e hK => by subst e; exact absurd h (no_kind hK)⟩
theorem pss_data {X : Cx} {A : AE} {δ : List Slot} {sts : List Stmt} (i : Nat) {s : Slot} {xs : List D} (hs : δ[i]? = some s) (h : s = .d (.list xs) ∨ ∃ q, s = .own q xs) (go : Pss X (δ.set i (.d (.list xs))) sts A) : Pss X δ sts A := by
  rcases h with rfl | ⟨q, rfl⟩
  · have e : δ.set i (.d (.list xs)) = δ := by
      apply List.ext_getElem?
      intro m
      by_cases hm : i = m
      · subst hm
        have hl : i < δ.length := (List.getElem?_eq_some_iff.mp hs).1
        rw [List.getElem?_set_self hl, hs]
      · rw [List.getElem?_set_ne hm]
    rw [e] at go
    exact go
  · exact pss_freeze i hs go
theorem no_pair_row {t j : Int} {v : D} (h : isPairD v = false) : isRowD t j v = false := by
  unfold isRowD
  split
  · simp [isPairD] at h
  · rfl
theorem rep_shaped (b : Bool) : SeqAt.shaped (.str (if b then "True" else "False")) = true := by cases b <;> decide +kernel
end Tp

set_option linter.all false
set_option maxRecDepth 100000
set_option maxHeartbeats 4000000
namespace Tp
open PySem PySem.Spec PyProof.Rows L2 Tl
/-! good offsets as a new list -/
def s_good_ofN : CtN := fun ss k _ => ∃ t j ds l, ss = [.d (kD t j), .d (.tuple ds), .d (.int l)] ∧ IsKind t j ∧ AllB ds ∧ ds.length ≤ 1000 ∧ k (good t j ds l)
def s_good_offsetsN (CK CB CN : Addr) : CtN := fun ss k ex => ∃ kd bd ld, ss = [.d kd, .d bd, .d ld] ∧ (isKindD kd = false → ex (.ref CK)) ∧
  ∀ t j, kd = kD t j → IsKind t j → (isBordersD bd = false → ex (.ref CB)) ∧ ∀ ds, bd = .tuple ds → IsBorders ds → (isIntD ld 1 t = false → ex (.ref CN)) ∧ ∀ l, ld = .int l → 1 ≤ l → l ≤ t → k (good t j ds l)
theorem s_goN_ok {CK CB CN : Addr} {t j l : Int} {ds : List D} {k : List Int → Prop} {ex : Value → Prop} (h1 : IsKind t j) (h2 : IsBorders ds) (h3 : 1 ≤ l) (h4 : l ≤ t) (h : k (good t j ds l)) :
    s_good_offsetsN CK CB CN [.d (kD t j), .d (.tuple ds), .d (.int l)] k ex := by
  refine ⟨_, _, _, rfl, fun z => absurd z (no_kind h1), ?_⟩
  intro t' j' e _
  cases e
  refine ⟨fun z => absurd z (no_borders h2), ?_⟩
  intro ds' e _
  cases e
  refine ⟨fun z => absurd z (no_int h3 h4), ?_⟩
  intro l' e _ _
  cases e
  exact h
theorem good_len (t j : Int) (ds : List D) (l : Int) : (good t j ds l).length ≤ (t + j).toNat := by
  rw [good_fil]; exact fil_len _ _
end Tp

set_option linter.all false
/-! TpI: pairs of a start and an end, plain: all choices beside the greedy one. -/
namespace Tp
/-- the best after i ends -/
def bestN (f : Nat → Int) (s r : Int) (E : List Int) (b : Int) : Nat → Int
  | 0 => b
  | i + 1 => if s + E.getD i 0 ≤ r then max (bestN f s r E b i) (1 + f i) else bestN f s r E b i
/-- the largest number of pairs, by all choices -/
def mostP : List Int → List Int → Int → Int
  | [], _, _ => 0
  | s :: S, E, r => bestN (fun i => mostP S (E.take i ++ E.drop (i + 1)) r) s r E (mostP S E r) E.length
/-- a choice of pairs -/
structure Mt (S E : List Int) (r : Int) (L : List (Int × Int)) : Prop where
  a : ∀ x, (L.map (·.1)).count x ≤ S.count x
  b : ∀ x, (L.map (·.2)).count x ≤ E.count x
  c : ∀ p ∈ L, p.1 + p.2 ≤ r
theorem cnt_cons (x y : Int) (l : List Int) : (x :: l).count y = l.count y + if x = y then 1 else 0 := by
  rw [List.count_cons]
  by_cases h : x = y <;> simp [h]
theorem cnt_cut {E : List Int} {i : Nat} (h : i < E.length) (y : Int) : E.count y = (E.take i ++ E.drop (i + 1)).count y + if E.getD i 0 = y then 1 else 0 := by
  have e : E = E.take i ++ E[i] :: E.drop (i + 1) := by
    rw [← List.drop_eq_getElem_cons h, List.take_append_drop]
  have g : E.getD i 0 = E[i] := by rw [List.getD_eq_getElem?_getD, List.getElem?_eq_getElem h]; rfl
  rw [g]
  conv => lhs; rw [e]
  rw [List.count_append, List.count_append, cnt_cons]
  omega
theorem cnt_mem {l : List Int} {x : Int} (h : x ∈ l) : 1 ≤ l.count x := List.count_pos_iff.mpr h
theorem mem_cnt {l : List Int} {x : Int} (h : 1 ≤ l.count x) : x ∈ l := List.count_pos_iff.mp h
theorem cnt_no {l : List Int} {x : Int} (h : x ∉ l) : l.count x = 0 := List.count_eq_zero.mpr h
theorem fst_er {L : List (Int × Int)} {p : Int × Int} (h : p ∈ L) (y : Int) : (L.map (·.1)).count y = ((L.erase p).map (·.1)).count y + if p.1 = y then 1 else 0 := by
  rw [((List.perm_cons_erase h).map (·.1)).count_eq, List.map_cons, cnt_cons]
theorem snd_er {L : List (Int × Int)} {p : Int × Int} (h : p ∈ L) (y : Int) : (L.map (·.2)).count y = ((L.erase p).map (·.2)).count y + if p.2 = y then 1 else 0 := by
  rw [((List.perm_cons_erase h).map (·.2)).count_eq, List.map_cons, cnt_cons]
theorem len_er {L : List (Int × Int)} {p : Int × Int} (h : p ∈ L) : L.length = (L.erase p).length + 1 := by
  rw [(List.perm_cons_erase h).length_eq, List.length_cons]
theorem in_fst {L : List (Int × Int)} {a b : Int} (h : (a, b) ∈ L) : a ∈ L.map (·.1) := List.mem_map.mpr ⟨_, h, rfl⟩
theorem in_snd {L : List (Int × Int)} {a b : Int} (h : (a, b) ∈ L) : b ∈ L.map (·.2) := List.mem_map.mpr ⟨_, h, rfl⟩
theorem fst_no {L : List (Int × Int)} {s : Int} (h : ¬ ∃ e, (s, e) ∈ L) : (L.map (·.1)).count s = 0 := cnt_no fun z => by
  obtain ⟨p, hp, e⟩ := List.mem_map.mp z
  exact h ⟨p.2, by rw [← e]; exact hp⟩
theorem snd_no {L : List (Int × Int)} {e : Int} (h : ¬ ∃ s, (s, e) ∈ L) : (L.map (·.2)).count e = 0 := cnt_no fun z => by
  obtain ⟨p, hp, q⟩ := List.mem_map.mp z
  exact h ⟨p.1, by rw [← q]; exact hp⟩
theorem best_ge {f : Nat → Int} {s r b : Int} {E : List Int} : ∀ n, b ≤ bestN f s r E b n ∧ ∀ i, i < n → s + E.getD i 0 ≤ r → 1 + f i ≤ bestN f s r E b n
  | 0 => ⟨Int.le_refl _, fun i h => absurd h (Nat.not_lt_zero _)⟩
  | n + 1 => by
    obtain ⟨h1, h2⟩ := best_ge (f := f) (s := s) (r := r) (b := b) (E := E) n
    unfold bestN
    refine ⟨by split <;> omega, fun i hi hs => ?_⟩
    by_cases e : i = n
    · subst e; rw [if_pos hs]; omega
    · have := h2 i (by omega) hs
      split <;> omega
theorem best_is {f : Nat → Int} {s r b : Int} {E : List Int} : ∀ n, bestN f s r E b n = b ∨ ∃ i, i < n ∧ s + E.getD i 0 ≤ r ∧ bestN f s r E b n = 1 + f i
  | 0 => .inl rfl
  | n + 1 => by
    unfold bestN
    have ih := best_is (f := f) (s := s) (r := r) (b := b) (E := E) n
    by_cases hs : s + E.getD n 0 ≤ r
    · rw [if_pos hs]
      rcases Int.le_total (bestN f s r E b n) (1 + f n) with h | h
      · exact .inr ⟨n, Nat.lt_succ_self _, hs, by omega⟩
      · rcases ih with e | ⟨i, h1, h2, h3⟩
        · exact .inl (by omega)
        · exact .inr ⟨i, by omega, h2, by omega⟩
    · rw [if_neg hs]
      rcases ih with e | ⟨i, h1, h2, h3⟩
      · exact .inl e
      · exact .inr ⟨i, by omega, h2, h3⟩
theorem most_has (r : Int) : ∀ (S E : List Int), ∃ L, Mt S E r L ∧ (L.length : Int) = mostP S E r
  | [], E => ⟨[], ⟨fun _ => Nat.zero_le _, fun _ => Nat.zero_le _, fun p h => nomatch h⟩, rfl⟩
  | s :: S, E => by
    rcases best_is (f := fun i => mostP S (E.take i ++ E.drop (i + 1)) r) (s := s) (r := r) (b := mostP S E r) (E := E) E.length with h | ⟨i, h1, h2, h3⟩
    · obtain ⟨L, m, hl⟩ := most_has r S E
      refine ⟨L, ⟨fun x => ?_, m.b, m.c⟩, ?_⟩
      · rw [cnt_cons]; have := m.a x; omega
      · rw [hl]; exact h.symm
    · obtain ⟨L, m, hl⟩ := most_has r S (E.take i ++ E.drop (i + 1))
      refine ⟨(s, E.getD i 0) :: L, ⟨fun x => ?_, fun x => ?_, fun p hp => ?_⟩, ?_⟩
      · rw [List.map_cons, cnt_cons, cnt_cons]; have := m.a x; simp only; omega
      · rw [List.map_cons, cnt_cons, cnt_cut h1 x]; have := m.b x; simp only; omega
      · rcases List.mem_cons.mp hp with e | hp
        · rw [e]; exact h2
        · exact m.c p hp
      · rw [List.length_cons]
        show _ = bestN _ _ _ _ _ _
        rw [h3, ← hl]; omega
theorem most_top {r : Int} : ∀ {S E : List Int} {L : List (Int × Int)}, Mt S E r L → (L.length : Int) ≤ mostP S E r
  | [], E, L, m => by
    cases L with
    | nil => exact Int.le_refl _
    | cons p L => have := m.a p.1; rw [List.map_cons, cnt_cons, if_pos rfl] at this; simp at this
  | s :: S, E, L, m => by
    obtain ⟨g1, g2⟩ := best_ge (f := fun i => mostP S (E.take i ++ E.drop (i + 1)) r) (s := s) (r := r) (b := mostP S E r) (E := E) E.length
    show _ ≤ bestN _ _ _ _ _ _
    by_cases h : ∃ e, (s, e) ∈ L
    · obtain ⟨e, he⟩ := h
      have hE : e ∈ E := mem_cnt (Nat.le_trans (cnt_mem (in_snd he)) (m.b e))
      obtain ⟨i, hi, ei⟩ := List.mem_iff_getElem.mp hE
      have g : E.getD i 0 = e := by rw [List.getD_eq_getElem?_getD, List.getElem?_eq_getElem hi]; exact ei
      have m2 : Mt S (E.take i ++ E.drop (i + 1)) r (L.erase (s, e)) := by
        refine ⟨fun x => ?_, fun x => ?_, fun p hp => m.c p (List.mem_of_mem_erase hp)⟩
        · have h1 := m.a x
          rw [fst_er he, cnt_cons] at h1
          simp only at h1
          omega
        · have h1 := m.b x
          rw [snd_er he, cnt_cut hi, g] at h1
          simp only at h1
          omega
      have := most_top m2
      have h2 := g2 i hi (by rw [g]; exact m.c _ he)
      have h3 := len_er he
      try simp only at h2
      omega
    · have m2 : Mt S E r L := by
        refine ⟨fun x => ?_, m.b, m.c⟩
        have h1 := m.a x
        rw [cnt_cons] at h1
        by_cases e : s = x
        · rw [← e, fst_no h]; omega
        · rw [if_neg e] at h1; omega
      have := most_top m2
      omega
/-- a number of pairs depends on how often each width comes alone -/
theorem most_eq {S E S' E' : List Int} {r : Int} (h1 : ∀ x, S.count x = S'.count x) (h2 : ∀ x, E.count x = E'.count x) : mostP S E r = mostP S' E' r := by
  obtain ⟨L, m, hl⟩ := most_has r S E
  obtain ⟨L', m', hl'⟩ := most_has r S' E'
  have a := most_top (S := S') (E := E') (r := r) (L := L) ⟨fun x => by rw [← h1]; exact m.a x, fun x => by rw [← h2]; exact m.b x, m.c⟩
  have b := most_top (S := S) (E := E) (r := r) (L := L') ⟨fun x => by rw [h1]; exact m'.a x, fun x => by rw [h2]; exact m'.b x, m'.c⟩
  omega
/-- the widest start may be given any end -/
theorem exch {s e r : Int} {S E E' : List Int} {L : List (Int × Int)} (hS : ∀ x ∈ S, x ≤ s) (hE : ∀ x, E.count x = E'.count x + if e = x then 1 else 0) (m : Mt (s :: S) E r L) :
    ∃ L', Mt S E' r L' ∧ L.length ≤ L'.length + 1 := by
  by_cases h1 : ∃ e', (s, e') ∈ L
  · obtain ⟨e', he'⟩ := h1
    have a1 : ∀ x, ((L.erase (s, e')).map (·.1)).count x ≤ S.count x := fun x => by
      have h := m.a x
      rw [fst_er he', cnt_cons] at h
      simp only at h
      omega
    have b1 : ∀ x, ((L.erase (s, e')).map (·.2)).count x + (if e' = x then 1 else 0) ≤ E'.count x + if e = x then 1 else 0 := fun x => by
      have h := m.b x
      rw [snd_er he', hE] at h
      exact h
    have c1 : ∀ p ∈ L.erase (s, e'), p.1 + p.2 ≤ r := fun p hp => m.c p (List.mem_of_mem_erase hp)
    have l1 := len_er he'
    by_cases h2 : ∃ s', (s', e) ∈ L.erase (s, e')
    · obtain ⟨s', hs'⟩ := h2
      have l2 := len_er hs'
      have hs2 : s' ∈ S := mem_cnt (Nat.le_trans (cnt_mem (in_fst hs')) (a1 s'))
      refine ⟨(s', e') :: (L.erase (s, e')).erase (s', e), ⟨fun x => ?_, fun x => ?_, fun p hp => ?_⟩, ?_⟩
      · have h := a1 x
        rw [fst_er hs'] at h
        rw [List.map_cons, cnt_cons]
        exact h
      · have h := b1 x
        rw [snd_er hs'] at h
        rw [List.map_cons, cnt_cons]
        simp only at h ⊢
        omega
      · rcases List.mem_cons.mp hp with q | hp
        · rw [q]
          have := m.c _ he'
          have := hS s' hs2
          simp only at *
          omega
        · exact c1 p (List.mem_of_mem_erase hp)
      · rw [List.length_cons]; omega
    · refine ⟨L.erase (s, e'), ⟨a1, fun x => ?_, c1⟩, by omega⟩
      have h := b1 x
      by_cases q : e = x
      · rw [← q, snd_no h2]; omega
      · rw [if_neg q] at h; omega
  · have a1 : ∀ x, (L.map (·.1)).count x ≤ S.count x := fun x => by
      have h := m.a x
      rw [cnt_cons] at h
      by_cases q : s = x
      · rw [← q, fst_no h1]; omega
      · rw [if_neg q] at h; omega
    by_cases h2 : ∃ s', (s', e) ∈ L
    · obtain ⟨s', hs'⟩ := h2
      have l2 := len_er hs'
      refine ⟨L.erase (s', e), ⟨fun x => ?_, fun x => ?_, fun p hp => m.c p (List.mem_of_mem_erase hp)⟩, by omega⟩
      · have h := a1 x
        rw [fst_er hs'] at h
        omega
      · have h := m.b x
        rw [snd_er hs', hE] at h
        simp only at h
        omega
    · refine ⟨L, ⟨a1, fun x => ?_, m.c⟩, by omega⟩
      have h := m.b x
      rw [hE] at h
      by_cases q : e = x
      · rw [← q, snd_no h2]; omega
      · rw [if_neg q] at h; omega
/-- the ends that fit a start -/
def fits (t saw w : Int) (es : List (Int × Int)) : List (Int × Int) := es.filter fun e => decide (e.1 + w + saw ≤ t)
/-- the pairs found: each start takes the last end that fits -/
def grd (t saw : Int) : List (Int × Int) → List (Int × Int) → List (Int × Int)
  | [], _ => []
  | x :: ss, es => match (fits t saw x.1 es).getLast? with
    | none => grd t saw ss es
    | some e => (x.2, e.2) :: grd t saw ss (es.erase e)
/-- a turn of the loop -/
def gstep (t saw : Int) (z : List (Int × Int) × List (Int × Int)) (x : Int × Int) : List (Int × Int) × List (Int × Int) := match (fits t saw x.1 z.2).getLast? with
  | none => z
  | some e => (z.1 ++ [(x.2, e.2)], z.2.erase e)
theorem grd_fold {t saw : Int} : ∀ (ss : List (Int × Int)) (z : List (Int × Int) × List (Int × Int)), (ss.foldl (gstep t saw) z).1 = z.1 ++ grd t saw ss z.2
  | [], z => (List.append_nil _).symm
  | x :: ss, z => by
    rw [List.foldl_cons, grd_fold ss]
    cases q : (fits t saw x.1 z.2).getLast? with
    | none => simp only [gstep, grd, q]
    | some e => simp only [gstep, grd, q, List.append_assoc, List.cons_append, List.nil_append]
theorem fits_last {t saw w : Int} {es : List (Int × Int)} {e : Int × Int} (h : (fits t saw w es).getLast? = some e) : e ∈ es ∧ e.1 + w + saw ≤ t := by
  have := List.mem_filter.mp (List.mem_of_getLast? h)
  exact ⟨this.1, of_decide_eq_true this.2⟩
theorem fits_none {t saw w : Int} {es : List (Int × Int)} (h : (fits t saw w es).getLast? = none) : ∀ e ∈ es, ¬ e.1 + w + saw ≤ t := fun e he z => by
  have h0 : fits t saw w es = [] := List.getLast?_eq_none_iff.mp h
  have : e ∈ fits t saw w es := List.mem_filter.mpr ⟨he, decide_eq_true z⟩
  rw [h0] at this
  cases this
theorem grd_mem {t saw : Int} : ∀ {ss es : List (Int × Int)} {p : Int × Int}, p ∈ grd t saw ss es → ∃ w e, (w, p.1) ∈ ss ∧ (e, p.2) ∈ es ∧ w + e + saw ≤ t
  | [], _, p, h => nomatch h
  | x :: ss, es, p, h => by
    unfold grd at h
    cases q : (fits t saw x.1 es).getLast? with
    | none =>
      rw [q] at h
      obtain ⟨w, e, h1, h2, h3⟩ := grd_mem h
      exact ⟨w, e, List.mem_cons_of_mem _ h1, h2, h3⟩
    | some e =>
      rw [q] at h
      obtain ⟨f1, f2⟩ := fits_last q
      rcases List.mem_cons.mp h with z | h
      · rw [z]
        exact ⟨x.1, e.1, List.mem_cons_self, f1, by omega⟩
      · obtain ⟨w, e', h1, h2, h3⟩ := grd_mem h
        exact ⟨w, e', List.mem_cons_of_mem _ h1, List.mem_of_mem_erase h2, h3⟩
theorem grd_nd1 {t saw : Int} : ∀ {ss es : List (Int × Int)}, (ss.map (·.2)).Nodup → ((grd t saw ss es).map (·.1)).Nodup
  | [], _, _ => List.nodup_nil
  | x :: ss, es, h => by
    rw [List.map_cons] at h
    obtain ⟨h1, h2⟩ := List.nodup_cons.mp h
    unfold grd
    split
    · exact grd_nd1 h2
    · rw [List.map_cons]
      refine List.nodup_cons.mpr ⟨fun z => ?_, grd_nd1 h2⟩
      obtain ⟨p, hp, e⟩ := List.mem_map.mp z
      obtain ⟨w, e', q1, _, _⟩ := grd_mem hp
      exact h1 (List.mem_map.mpr ⟨_, q1, e⟩)
theorem grd_nd2 {t saw : Int} : ∀ {ss es : List (Int × Int)}, (es.map (·.2)).Nodup → ((grd t saw ss es).map (·.2)).Nodup
  | [], _, _ => List.nodup_nil
  | x :: ss, es, h => by
    unfold grd
    cases q : (fits t saw x.1 es).getLast? with
    | none => exact grd_nd2 h
    | some e =>
      obtain ⟨f1, f2⟩ := fits_last q
      have hp := (List.perm_cons_erase f1).map (·.2)
      rw [List.map_cons] at hp
      obtain ⟨h1, h2⟩ := List.nodup_cons.mp (hp.nodup_iff.mp h)
      show ((_ :: _ : List (Int × Int)).map (·.2)).Nodup
      rw [List.map_cons]
      refine List.nodup_cons.mpr ⟨fun z => ?_, grd_nd2 h2⟩
      obtain ⟨p, hp, e'⟩ := List.mem_map.mp z
      obtain ⟨w, e2, _, q2, _⟩ := grd_mem hp
      exact h1 (List.mem_map.mpr ⟨_, q2, e'⟩)
theorem grd_has {t saw : Int} : ∀ (ss es : List (Int × Int)), ∃ L, Mt (ss.map (·.1)) (es.map (·.1)) (t - saw) L ∧ L.length = (grd t saw ss es).length
  | [], es => ⟨[], ⟨fun _ => Nat.zero_le _, fun _ => Nat.zero_le _, fun p h => nomatch h⟩, rfl⟩
  | x :: ss, es => by
    unfold grd
    cases q : (fits t saw x.1 es).getLast? with
    | none =>
      obtain ⟨L, m, hl⟩ := grd_has ss es
      exact ⟨L, ⟨fun y => by rw [List.map_cons, cnt_cons]; have := m.a y; omega, m.b, m.c⟩, hl⟩
    | some e =>
      obtain ⟨f1, f2⟩ := fits_last q
      obtain ⟨L, m, hl⟩ := grd_has ss (es.erase e)
      refine ⟨(x.1, e.1) :: L, ⟨fun y => ?_, fun y => ?_, fun p hp => ?_⟩, by rw [List.length_cons, hl]; rfl⟩
      · rw [List.map_cons, List.map_cons, cnt_cons, cnt_cons]; have := m.a y; simp only; omega
      · rw [List.map_cons, cnt_cons, fst_er f1]; have := m.b y; simp only; omega
      · rcases List.mem_cons.mp hp with z | hp
        · rw [z]; simp only; omega
        · exact m.c p hp
theorem grd_top {t saw : Int} : ∀ {ss es : List (Int × Int)} {L : List (Int × Int)}, ss.Pairwise (fun a b => b.1 ≤ a.1) → Mt (ss.map (·.1)) (es.map (·.1)) (t - saw) L → L.length ≤ (grd t saw ss es).length
  | [], es, L, _, m => by
    cases L with
    | nil => exact Nat.le_refl _
    | cons p L => have := m.a p.1; rw [List.map_cons, cnt_cons, if_pos rfl] at this; simp at this
  | x :: ss, es, L, hs, m => by
    obtain ⟨h1, h2⟩ := List.pairwise_cons.mp hs
    unfold grd
    cases q : (fits t saw x.1 es).getLast? with
    | none =>
      refine grd_top h2 ⟨fun y => ?_, m.b, m.c⟩
      have h := m.a y
      rw [List.map_cons, cnt_cons] at h
      by_cases e : x.1 = y
      · rw [← e, fst_no]
        · omega
        · rintro ⟨e', he'⟩
          have hE : e' ∈ es.map (·.1) := mem_cnt (Nat.le_trans (cnt_mem (in_snd he')) (m.b e'))
          obtain ⟨p, hp, ep⟩ := List.mem_map.mp hE
          have := m.c _ he'
          have := fits_none q p hp
          simp only at *
          omega
      · rw [if_neg e] at h; omega
    | some e =>
      obtain ⟨f1, f2⟩ := fits_last q
      obtain ⟨L', m', hl⟩ := exch (s := x.1) (e := e.1) (S := ss.map (·.1)) (E := es.map (·.1)) (E' := (es.erase e).map (·.1)) (fun y hy => by
        obtain ⟨p, hp, ep⟩ := List.mem_map.mp hy
        rw [← ep]; exact h1 p hp) (fun y => fst_er f1 y) (by rw [List.map_cons] at m; exact m)
      have := grd_top h2 m'
      show _ ≤ (_ :: _ : List (Int × Int)).length
      rw [List.length_cons]
      omega
theorem grd_len {t saw : Int} {ss es : List (Int × Int)} {S E : List Int} (hs : ss.Pairwise (fun a b => b.1 ≤ a.1)) (h1 : ∀ x, (ss.map (·.1)).count x = S.count x) (h2 : ∀ x, (es.map (·.1)).count x = E.count x) :
    ((grd t saw ss es).length : Int) = mostP S E (t - saw) := by
  obtain ⟨L, m, hl⟩ := grd_has (t := t) (saw := saw) ss es
  obtain ⟨L', m', hl'⟩ := most_has (t - saw) (ss.map (·.1)) (es.map (·.1))
  have a := most_top m
  have b := grd_top hs m'
  rw [← most_eq h1 h2]
  omega
end Tp

set_option linter.all false
set_option maxRecDepth 100000
set_option maxHeartbeats 4000000
namespace Tp
open PySem PySem.Spec PyProof.Rows L2 Tl
/-! TpJ: rows, cut pieces, pairs, tiles needed. -/
def isRowsD (t j : Int) (d : D) : Bool := match d with
  | .tuple xs => decide (1 ≤ xs.length) && decide (xs.length ≤ 20) && xs.all (isRowD t j)
  | _ => false
structure Rows (t j : Int) (rs : List (Int × Int)) : Prop where
  lo : 1 ≤ rs.length
  hi : rs.length ≤ 20
  all : ∀ p ∈ rs, IsRow t j p.1 p.2
abbrev rwsD (rs : List (Int × Int)) : D := .tuple (rs.map pD)
theorem allR_iff {t j : Int} : ∀ {xs : List D}, xs.all (isRowD t j) = true ↔ ∃ rs : List (Int × Int), xs = rs.map pD ∧ ∀ p ∈ rs, IsRow t j p.1 p.2
  | [] => ⟨fun _ => ⟨[], rfl, fun _ h => nomatch h⟩, fun _ => rfl⟩
  | d :: xs => by
    rw [List.all_cons, Bool.and_eq_true, isRowD_iff, allR_iff (xs := xs)]
    constructor
    · rintro ⟨⟨s, e, rfl, h⟩, rs, rfl, h2⟩
      refine ⟨(s, e) :: rs, rfl, fun p hp => ?_⟩
      rcases List.mem_cons.mp hp with z | z
      · rw [z]; exact h
      · exact h2 p z
    · rintro ⟨rs, e, h⟩
      cases rs with
      | nil => cases e
      | cons p rs =>
        cases e
        exact ⟨⟨p.1, p.2, rfl, h p List.mem_cons_self⟩, rs, rfl, fun q hq => h q (List.mem_cons_of_mem _ hq)⟩
theorem isRowsD_iff {t j : Int} {d : D} : isRowsD t j d = true ↔ ∃ rs, d = rwsD rs ∧ Rows t j rs := by
  constructor
  · intro h
    unfold isRowsD at h
    split at h
    · rename_i xs
      simp only [Bool.and_eq_true, decide_eq_true_eq] at h
      obtain ⟨rs, rfl, h2⟩ := allR_iff.mp h.2
      rw [List.length_map] at h
      exact ⟨rs, rfl, by omega, by omega, h2⟩
    · cases h
  · rintro ⟨rs, rfl, h⟩
    have h1 := h.lo; have h2 := h.hi
    simp only [isRowsD, Bool.and_eq_true, decide_eq_true_eq, List.length_map]
    exact ⟨⟨by omega, by omega⟩, allR_iff.mpr ⟨rs, rfl, h.all⟩⟩
theorem no_rows {t j : Int} {rs : List (Int × Int)} (h : Rows t j rs) : ¬ isRowsD t j (rwsD rs) = false := by
  rw [isRowsD_iff.mpr ⟨rs, rfl, h⟩]; decide
/-! ### cut pieces -/
abbrev Cut := Int × Int × Int
abbrev cD (c : Cut) : D := .tuple [.int c.1, .int c.2.1, .int c.2.2]
def cutO (t j o : Int) (p : Int × Int) : Cut := (width t j o p.1 true % t, whl t j o p.1 p.2, width t j o p.2 false % t)
theorem cutO_D (t j o : Int) (p : Int × Int) : rpD t j o p.1 p.2 = cD (cutO t j o p) := rfl
/-- the cut ones with their places -/
def pkL (f : Cut → Int) (n : Nat) : List Cut → List (Int × Int)
  | [] => []
  | c :: cs => if 0 < f c then (f c, (n : Int)) :: pkL f (n + 1) cs else pkL f (n + 1) cs
theorem pkL_fst (f : Cut → Int) : ∀ (n : Nat) (cs : List Cut), (pkL f n cs).map (·.1) = (cs.map f).filter fun x => decide (0 < x)
  | n, [] => rfl
  | n, c :: cs => by
    unfold pkL
    by_cases h : 0 < f c
    · rw [if_pos h, List.map_cons, List.map_cons, List.filter_cons_of_pos (by simpa using h), pkL_fst f (n + 1) cs]
    · rw [if_neg h, List.map_cons, List.filter_cons_of_neg (by simpa using h), pkL_fst f (n + 1) cs]
theorem pkL_mem {f : Cut → Int} : ∀ {n : Nat} {cs : List Cut} {p : Int × Int}, p ∈ pkL f n cs → ∃ (i : Nat) (c : Cut), p = (f c, ((n + i : Nat) : Int)) ∧ cs[i]? = some c ∧ 0 < f c
  | n, [], p, h => nomatch h
  | n, c :: cs, p, h => by
    have tail : p ∈ pkL f (n + 1) cs → ∃ (i : Nat) (c' : Cut), p = (f c', ((n + i : Nat) : Int)) ∧ (c :: cs)[i]? = some c' ∧ 0 < f c' := fun h => by
      obtain ⟨i, c', h1, h2, h3⟩ := pkL_mem h
      exact ⟨i + 1, c', by rw [h1, show n + 1 + i = n + (i + 1) by omega], h2, h3⟩
    unfold pkL at h
    by_cases hc : 0 < f c
    · rw [if_pos hc] at h
      rcases List.mem_cons.mp h with z | z
      · exact ⟨0, c, z, rfl, hc⟩
      · exact tail z
    · rw [if_neg hc] at h
      exact tail h
theorem pkL_nd {f : Cut → Int} : ∀ {n : Nat} {cs : List Cut}, ((pkL f n cs).map (·.2)).Nodup
  | n, [] => List.nodup_nil
  | n, c :: cs => by
    unfold pkL
    split
    · rw [List.map_cons]
      refine List.nodup_cons.mpr ⟨fun z => ?_, pkL_nd⟩
      obtain ⟨p, hp, e⟩ := List.mem_map.mp z
      obtain ⟨i, c', h1, _, _⟩ := pkL_mem hp
      rw [h1] at e
      simp only at e
      omega
    · exact pkL_nd
theorem pkL_len (f : Cut → Int) : ∀ (n : Nat) (cs : List Cut), (pkL f n cs).length ≤ cs.length
  | n, [] => Nat.le_refl _
  | n, c :: cs => by
    unfold pkL
    have := pkL_len f (n + 1) cs
    split <;> (simp only [List.length_cons]; omega)
/-- in a comprehension over enumerate(cut) -/
def sTest : D → Bool := fun d => match d with | .tuple [_, .tuple [.int a, _, _]] => decide (0 < a) | _ => false
def eTest : D → Bool := fun d => match d with | .tuple [_, .tuple [_, _, .int a]] => decide (0 < a) | _ => false
def sElt : D → D := fun d => match d with | .tuple [i, .tuple [a, _, _]] => .tuple [a, i] | _ => .none
def eElt : D → D := fun d => match d with | .tuple [i, .tuple [_, _, a]] => .tuple [a, i] | _ => .none
theorem enum_s : ∀ (n : Nat) (cs : List Cut), ((enumD n (cs.map cD)).filter sTest).map sElt = (pkL (·.1) n cs).map pD
  | n, [] => rfl
  | n, c :: cs => by
    show (((PyData.tuple [.int n, cD c]) :: enumD (n + 1) (cs.map cD)).filter sTest).map sElt = _
    unfold pkL
    by_cases h : 0 < c.1
    · rw [if_pos h, List.filter_cons_of_pos (show sTest (PyData.tuple [.int n, cD c]) = true from decide_eq_true h), List.map_cons, List.map_cons, enum_s (n + 1) cs]; rfl
    · rw [if_neg h, List.filter_cons_of_neg (show ¬ sTest (PyData.tuple [.int n, cD c]) = true by show ¬ decide (0 < c.1) = true; simpa using h), enum_s (n + 1) cs]
theorem enum_e : ∀ (n : Nat) (cs : List Cut), ((enumD n (cs.map cD)).filter eTest).map eElt = (pkL (·.2.2) n cs).map pD
  | n, [] => rfl
  | n, c :: cs => by
    show (((PyData.tuple [.int n, cD c]) :: enumD (n + 1) (cs.map cD)).filter eTest).map eElt = _
    unfold pkL
    by_cases h : 0 < c.2.2
    · rw [if_pos h, List.filter_cons_of_pos (show eTest (PyData.tuple [.int n, cD c]) = true from decide_eq_true h), List.map_cons, List.map_cons, enum_e (n + 1) cs]; rfl
    · rw [if_neg h, List.filter_cons_of_neg (show ¬ eTest (PyData.tuple [.int n, cD c]) = true by show ¬ decide (0 < c.2.2) = true; simpa using h), enum_e (n + 1) cs]
/-! ### pairs -/
abbrev stW (cs : List Cut) : List Int := (cs.map (·.1)).filter fun x => decide (0 < x)
abbrev enW (cs : List Cut) : List Int := (cs.map (·.2.2)).filter fun x => decide (0 < x)
structure PairsOk (t saw : Int) (cs : List Cut) (ps : List (Int × Int)) : Prop where
  len : (ps.length : Int) = mostP (stW cs) (enW cs) (t - saw)
  nd1 : (ps.map (·.1)).Nodup
  nd2 : (ps.map (·.2)).Nodup
  mem : ∀ p ∈ ps, ∃ (a b : Nat) (ca cb : Cut), p = ((a : Int), (b : Int)) ∧ cs[a]? = some ca ∧ cs[b]? = some cb ∧ 0 < ca.1 ∧ 0 < cb.2.2 ∧ ca.1 + cb.2.2 + saw ≤ t
/-- the loop's state -/
abbrev gst (t saw : Int) (ss es : List (Int × Int)) (i : Nat) : List (Int × Int) × List (Int × Int) := (ss.take i).foldl (gstep t saw) ([], es)
theorem gst_succ {t saw : Int} {ss es : List (Int × Int)} {i : Nat} {x : Int × Int} (h : ss[i]? = some x) : gst t saw ss es (i + 1) = gstep t saw (gst t saw ss es i) x := by
  show (ss.take (i + 1)).foldl _ _ = _
  rw [List.take_add_one, h, List.foldl_append]; rfl
theorem gst_all {t saw : Int} {ss es : List (Int × Int)} : (gst t saw ss es ss.length).1 = grd t saw ss es := by
  unfold gst
  rw [List.take_length, grd_fold]; rfl
theorem gst_len {t saw : Int} {ss es : List (Int × Int)} : ∀ i, (gst t saw ss es i).1.length ≤ i
  | 0 => Nat.le_refl _
  | i + 1 => by
    have ih := gst_len (t := t) (saw := saw) (ss := ss) (es := es) i
    cases h : ss[i]? with
    | none =>
      unfold gst at ih ⊢
      rw [List.take_add_one, h]
      simp only [Option.toList_none, List.append_nil]
      exact Nat.le_succ_of_le ih
    | some x =>
      rw [gst_succ h]
      unfold gstep
      split
      · omega
      · simp only [List.length_append, List.length_singleton]; omega
theorem gstep_no {t saw : Int} {z : List (Int × Int) × List (Int × Int)} {x : Int × Int} (h : fits t saw x.1 z.2 = []) : gstep t saw z x = z := by
  unfold gstep; rw [h]; rfl
theorem gstep_yes {t saw : Int} {z : List (Int × Int) × List (Int × Int)} {x : Int × Int} (h : fits t saw x.1 z.2 ≠ []) : gstep t saw z x = (z.1 ++ [(x.2, ((fits t saw x.1 z.2).getLast h).2)], z.2.erase ((fits t saw x.1 z.2).getLast h)) := by
  unfold gstep; rw [List.getLast?_eq_some_getLast h]
/-- in the comprehension of the ends that fit -/
def fTest (t saw w : Int) : D → Bool := fun d => match d with | .tuple [.int a, _] => decide (a + w + saw ≤ t) | _ => false
theorem fits_D (t saw w : Int) (es : List (Int × Int)) : ((es.map pD).filter (fTest t saw w)).map (fun d => d) = (fits t saw w es).map pD := by
  rw [List.map_id', List.filter_map]; rfl
theorem last_D {ps : List (Int × Int)} (h : ps ≠ []) : atI (ps.map pD) (-1) = some (pD (ps.getLast h)) := by
  have hl := List.length_pos_iff.mpr h
  have e : ixN (ps.map pD).length (-1) = some (ps.length - 1) := by
    unfold ixN
    rw [List.length_map, if_neg (by decide), if_pos (by omega)]
    exact congrArg some (by omega)
  unfold atI
  rw [e]
  show (ps.map pD)[ps.length - 1]? = _
  rw [List.getElem?_map, List.getLast_eq_getElem, List.getElem?_eq_getElem (by omega)]
  rfl
theorem pairs_done {t saw : Int} {cs : List Cut} {ss es ms : List (Int × Int)} (h1 : ss.Perm (pkL (·.1) 0 cs)) (h2 : ss.Pairwise leP) (h3 : es.Perm (pkL (·.2.2) 0 cs)) (h4 : ms.Perm (grd t saw ss.reverse es)) : PairsOk t saw cs ms := by
  have hr : ss.reverse.Perm (pkL (·.1) 0 cs) := (List.reverse_perm ss).trans h1
  have hp : ss.reverse.Pairwise (fun a b => b.1 ≤ a.1) := by
    rw [List.pairwise_reverse]
    exact h2.imp fun h => by unfold leP at h; omega
  have hn1 : (ss.reverse.map (·.2)).Nodup := ((hr.map (·.2)).nodup_iff).mpr pkL_nd
  have hn2 : (es.map (·.2)).Nodup := ((h3.map (·.2)).nodup_iff).mpr pkL_nd
  refine ⟨?_, ((h4.map (·.1)).nodup_iff).mpr (grd_nd1 hn1), ((h4.map (·.2)).nodup_iff).mpr (grd_nd2 hn2), fun p hp => ?_⟩
  · rw [h4.length_eq]
    refine grd_len hp (fun x => ?_) fun x => ?_
    · rw [(hr.map (·.1)).count_eq, pkL_fst]
    · rw [(h3.map (·.1)).count_eq, pkL_fst]
  · obtain ⟨w, e, q1, q2, q3⟩ := grd_mem (h4.mem_iff.mp hp)
    obtain ⟨a, ca, e1, c1, d1⟩ := pkL_mem (hr.mem_iff.mp q1)
    obtain ⟨b, cb, e2, c2, d2⟩ := pkL_mem (h3.mem_iff.mp q2)
    obtain ⟨f1, f2⟩ := Prod.mk.inj e1
    obtain ⟨g1, g2⟩ := Prod.mk.inj e2
    rw [Nat.zero_add] at f2 g2
    refine ⟨a, b, ca, cb, Prod.ext f2 g2, c1, c2, d1, d2, ?_⟩
    omega
/-- the fewest tiles -/
def need (t saw : Int) (cs : List Cut) : Int := (cs.map (·.2.1)).sum + ((stW cs).length : Int) + ((enW cs).length : Int) - mostP (stW cs) (enW cs) (t - saw)
def wSum (c : Cut) : Int := c.2.1 + (if decide (0 < c.1) = true then 1 else 0) + (if decide (0 < c.2.2) = true then 1 else 0)
theorem wSum_all : ∀ cs : List Cut, (cs.map wSum).sum = (cs.map (·.2.1)).sum + ((stW cs).length : Int) + ((enW cs).length : Int)
  | [] => rfl
  | c :: cs => by
    have ih := wSum_all cs
    simp only [List.map_cons, List.sum_cons, stW, enW, List.filter_cons, wSum] at ih ⊢
    by_cases h1 : 0 < c.1 <;> by_cases h2 : 0 < c.2.2 <;> simp [h1, h2] at ih ⊢ <;> omega
/-! ### contracts -/
def s_need_rows (C : Addr) : Ct := fun ss k ex => ∃ t j v, ss = [.d (kD t j), .d v] ∧ (isRowsD t j v = true → k .none) ∧ (isRowsD t j v = false → ex (.ref C))
abbrev cuts (t j o : Int) (rs : List (Int × Int)) : List Cut := rs.map (cutO t j o)
def s_pairs_of : Ct := fun ss k _ => ∃ t j o rs saw, ss = [.d (kD t j), .d (.int o), .d (rwsD rs), .d (.int saw)] ∧ IsKind t j ∧ rs.length ≤ 20 ∧ ∀ ps, PairsOk t saw (cuts t j o rs) ps → k (.list (ps.map pD))
def s_needed : Ct := fun ss k _ => ∃ t j o rs saw, ss = [.d (kD t j), .d (.int o), .d (rwsD rs), .d (.int saw)] ∧ IsKind t j ∧ rs.length ≤ 20 ∧ k (.int (need t saw (cuts t j o rs)))
def s_kors (R : Int → Int → Int → List (Int × Int) → Int → (D → Prop) → Prop) (CK CO CR CN : Addr) : Ct := fun ss k ex => ∃ kd od rd sd, ss = [.d kd, .d od, .d rd, .d sd] ∧ (isKindD kd = false → ex (.ref CK)) ∧
  ∀ t j, kd = kD t j → IsKind t j → (isIntD od 0 (t + j - 1) = false → ex (.ref CO)) ∧ ∀ o, od = .int o → 0 ≤ o → o ≤ t + j - 1 → (isRowsD t j rd = false → ex (.ref CR)) ∧
    ∀ rs, rd = rwsD rs → Rows t j rs → (isIntD sd 0 20 = false → ex (.ref CN)) ∧ ∀ saw, sd = .int saw → 0 ≤ saw → saw ≤ 20 → R t j o rs saw k
abbrev s_pairs : Addr → Addr → Addr → Addr → Ct := s_kors fun t j o rs saw k => ∀ ps, PairsOk t saw (cuts t j o rs) ps → k (.list (ps.map pD))
abbrev s_tiles_needed : Addr → Addr → Addr → Addr → Ct := s_kors fun t j o rs saw k => k (.int (need t saw (cuts t j o rs)))
section
variable {R : Int → Int → Int → List (Int × Int) → Int → (D → Prop) → Prop} {CK CO CR CN : Addr} {t j o saw : Int} {rs : List (Int × Int)} {k : D → Prop} {ex : Value → Prop}
theorem s_kors_ok (h1 : IsKind t j) (h2 : 0 ≤ o) (h3 : o ≤ t + j - 1) (h4 : Rows t j rs) (h5 : 0 ≤ saw) (h6 : saw ≤ 20) (h : R t j o rs saw k) : s_kors R CK CO CR CN [.d (kD t j), .d (.int o), .d (rwsD rs), .d (.int saw)] k ex := by
  refine ⟨_, _, _, _, rfl, fun z => absurd z (no_kind h1), ?_⟩
  intro t' j' e _
  cases e
  refine ⟨fun z => absurd z (no_int h2 h3), fun o' e _ _ => ?_⟩
  cases e
  refine ⟨fun z => absurd z (no_rows h4), fun rs' e _ => ?_⟩
  have e1 : rs = rs' := by
    have e2 := PyData.tuple.inj e
    have inj : ∀ (a b : List (Int × Int)), a.map pD = b.map pD → a = b := by
      intro a
      induction a with
      | nil => intro b h; cases b with | nil => rfl | cons => cases h
      | cons x a ih =>
        intro b h
        cases b with
        | nil => cases h
        | cons y b =>
          rw [List.map_cons, List.map_cons] at h
          injection h with h1 h2
          have := ih b h2
          cases x; cases y
          cases h1
          rw [this]
    exact inj _ _ e2
  subst e1
  refine ⟨fun z => absurd z (no_int h5 h6), fun s' e _ _ => ?_⟩
  cases e
  exact h
theorem s_kors_badR {rd sd : D} (h1 : IsKind t j) (h2 : 0 ≤ o) (h3 : o ≤ t + j - 1) (h4 : isRowsD t j rd = false) (hx : ex (.ref CR)) : s_kors R CK CO CR CN [.d (kD t j), .d (.int o), .d rd, .d sd] k ex := by
  refine ⟨_, _, _, _, rfl, fun z => absurd z (no_kind h1), ?_⟩
  intro t' j' e _
  cases e
  refine ⟨fun z => absurd z (no_int h2 h3), fun o' e _ _ => ?_⟩
  cases e
  refine ⟨fun _ => hx, fun rs' e h => ?_⟩
  subst e
  exact absurd h4 (no_rows h)
theorem s_kors_badN {sd : D} (h1 : IsKind t j) (h2 : 0 ≤ o) (h3 : o ≤ t + j - 1) (h4 : Rows t j rs) (h5 : isIntD sd 0 20 = false) (hx : ex (.ref CN)) : s_kors R CK CO CR CN [.d (kD t j), .d (.int o), .d (rwsD rs), .d sd] k ex := by
  refine ⟨_, _, _, _, rfl, fun z => absurd z (no_kind h1), ?_⟩
  intro t' j' e _
  cases e
  refine ⟨fun z => absurd z (no_int h2 h3), fun o' e _ _ => ?_⟩
  cases e
  refine ⟨fun z => absurd z (no_rows h4), fun rs' e h => ?_⟩
  refine ⟨fun _ => hx, fun s' e h6 h7 => ?_⟩
  subst e
  exact absurd h5 (no_int h6 h7)
end
/-! ### the law's own -/
def s_law_rows : Ct := fun ss k _ => ∃ b t j m, ss = [.bag b, .d (kD t j), .d (.int m)] ∧ IsKind t j ∧ (0 < m ∧ m ≤ 20) ∧ ∀ rs, Rows t j rs → (rs.length : Int) ≤ m → k (rwsD rs)
theorem pairs_of_rows {t j : Int} : ∀ {ys : List D}, (∀ d ∈ ys, ∃ s e, d = rD s e ∧ IsRow t j s e) → ∃ rs : List (Int × Int), ys = rs.map pD ∧ ∀ p ∈ rs, IsRow t j p.1 p.2 := fun {ys} h => allR_iff.mp (List.all_eq_true.mpr fun d hd => isRowD_iff.mpr (h d hd))
/-- the recursion's contract, to a depth -/
def s_most (n : Nat) : Ct := fun ss k _ => ∃ S E r, ss = [.d (intsD S), .d (intsD E), .d (.int r)] ∧ S.length < n ∧ E.length ≤ 100 ∧ k (.int (mostP S E r))
theorem most_nil (r : Int) : ∀ S : List Int, mostP S [] r = 0
  | [] => rfl
  | s :: S => by
    show bestN _ _ _ _ _ 0 = 0
    exact most_nil r S
abbrev bestM (s : Int) (S E : List Int) (r : Int) (i : Nat) : Int := bestN (fun i => mostP S (E.take i ++ E.drop (i + 1)) r) s r E (mostP S E r) i
def s_law_pairs_right : Ct := fun ss k _ => ∃ t j o rs saw ps, ss = [.d (kD t j), .d (.int o), .d (rwsD rs), .d (.int saw), .d (.list (ps.map pD))] ∧ IsKind t j ∧ Rows t j rs ∧ PairsOk t saw (cuts t j o rs) ps ∧ k (.bool true)
theorem pairs_few {t saw : Int} {cs : List Cut} {ps : List (Int × Int)} (h : PairsOk t saw cs ps) : ps.length ≤ cs.length := by
  obtain ⟨L, m, hl⟩ := most_has (t - saw) (stW cs) (enW cs)
  have h1 : (ps.length : Int) = L.length := h.len.trans hl.symm
  have h2 : (L.map (·.1)).length ≤ (stW cs).length := by
    have sub : ∀ (a b : List Int), (∀ x, a.count x ≤ b.count x) → a.length ≤ b.length := by
      intro a
      induction a with
      | nil => intro b _; exact Nat.zero_le _
      | cons x a ih =>
        intro b h
        have hx : x ∈ b := mem_cnt (by have := h x; rw [cnt_cons, if_pos rfl] at this; omega)
        have hp := List.perm_cons_erase hx
        have := ih (b.erase x) fun y => by
          have h3 := h y
          rw [cnt_cons, hp.count_eq, cnt_cons] at h3
          omega
        rw [hp.length_eq, List.length_cons, List.length_cons]
        omega
    exact sub _ _ m.a
  have h3 : (stW cs).length ≤ cs.length := by
    have := List.length_filter_le (fun x => decide (0 < x)) (cs.map (·.1))
    rw [List.length_map] at this
    exact this
  rw [List.length_map] at h2
  omega
/-! ### for the walks -/
def cutFD (t j o : Int) : D → D := fun d => match d with | .tuple [.int s, .int e] => cD (cutO t j o (s, e)) | _ => .none
theorem cutFD_map {t j o : Int} {rs : List (Int × Int)} : (rs.map pD).map (cutFD t j o) = (cuts t j o rs).map cD := by
  rw [List.map_map, List.map_map]; rfl
theorem enum_mem : ∀ {n : Nat} {ds : List D} {d : D}, d ∈ enumD n ds → ∃ (i : Int) (x : D), d = .tuple [.int i, x] ∧ x ∈ ds
  | n, [], d, h => nomatch h
  | n, x :: ds, d, h => by
    rcases List.mem_cons.mp (show d ∈ (PyData.tuple [.int n, x]) :: enumD (n + 1) ds from h) with z | z
    · exact ⟨_, x, z, List.mem_cons_self⟩
    · obtain ⟨i, y, h1, h2⟩ := enum_mem z
      exact ⟨i, y, h1, List.mem_cons_of_mem _ h2⟩
theorem enum_cut {cs : List Cut} {d : D} (h : d ∈ enumD 0 (cs.map cD)) : ∃ (i : Int) (c : Cut), d = .tuple [.int i, cD c] := by
  obtain ⟨i, x, e, hx⟩ := enum_mem h
  obtain ⟨c, _, rfl⟩ := List.mem_map.mp hx
  exact ⟨i, c, e⟩
theorem enum_int {E : List Int} {i : Nat} {d : D} (h : (enumD 0 (E.map PyData.int))[i]? = some d) : i < E.length ∧ d = .tuple [.int (i : Nat), .int (E.getD i 0)] := by
  rw [enumD_get, List.getElem?_map] at h
  cases q : E[i]? with
  | none => rw [q] at h; cases h
  | some x =>
    rw [q] at h
    have hl := (List.getElem?_eq_some_iff.mp q).1
    have e := Option.some.inj h
    rw [Nat.zero_add] at e
    exact ⟨hl, by rw [← e, List.getD_eq_getElem?_getD, q]; rfl⟩
def wSumD : D → D := fun d => match d with | .tuple [.int a, .int b, .int c] => .int (wSum (a, b, c)) | _ => .none
theorem wSumD_map {cs : List Cut} : (cs.map cD).map wSumD = (cs.map wSum).map .int := by
  rw [List.map_map, List.map_map]; rfl
theorem eqvP_nil (ps : List (Int × Int)) : PyData.eqv (.list (ps.map pD)) (.list []) = decide (ps = []) := by
  cases ps with
  | nil => rfl
  | cons p ps => rfl
def sT2 : D → Bool := fun d => match d with | .tuple [.int a, _, _] => decide (0 < a) | _ => false
def eT2 : D → Bool := fun d => match d with | .tuple [_, _, .int a] => decide (0 < a) | _ => false
def at0D : D → D := fun d => match d with | .tuple (a :: _) => a | _ => .none
def at1D : D → D := fun d => match d with | .tuple (_ :: a :: _) => a | _ => .none
def at2D : D → D := fun d => match d with | .tuple (_ :: _ :: a :: _) => a | _ => .none
theorem stW_D (cs : List Cut) : ((cs.map cD).filter sT2).map at0D = (stW cs).map .int := by
  induction cs with
  | nil => rfl
  | cons c cs ih =>
    simp only [stW, List.map_cons] at ih ⊢
    by_cases h : 0 < c.1
    · rw [List.filter_cons_of_pos (show sT2 (cD c) = true from decide_eq_true h), List.filter_cons_of_pos (by simpa using h), List.map_cons, List.map_cons, ih]; rfl
    · rw [List.filter_cons_of_neg (show ¬ sT2 (cD c) = true by show ¬ decide (0 < c.1) = true; simpa using h), List.filter_cons_of_neg (by simpa using h), ih]
theorem enW_D (cs : List Cut) : ((cs.map cD).filter eT2).map at2D = (enW cs).map .int := by
  induction cs with
  | nil => rfl
  | cons c cs ih =>
    simp only [enW, List.map_cons] at ih ⊢
    by_cases h : 0 < c.2.2
    · rw [List.filter_cons_of_pos (show eT2 (cD c) = true from decide_eq_true h), List.filter_cons_of_pos (by simpa using h), List.map_cons, List.map_cons, ih]; rfl
    · rw [List.filter_cons_of_neg (show ¬ eT2 (cD c) = true by show ¬ decide (0 < c.2.2) = true; simpa using h), List.filter_cons_of_neg (by simpa using h), ih]
theorem stW_len (cs : List Cut) : (stW cs).length ≤ cs.length := by
  have := List.length_filter_le (fun x => decide (0 < x)) (cs.map (·.1))
  rw [List.length_map] at this
  exact this
theorem enW_len (cs : List Cut) : (enW cs).length ≤ cs.length := by
  have := List.length_filter_le (fun x => decide (0 < x)) (cs.map (·.2.2))
  rw [List.length_map] at this
  exact this
theorem at1_D (cs : List Cut) : (cs.map cD).map at1D = (cs.map (·.2.1)).map .int := by
  rw [List.map_map, List.map_map]; rfl
theorem pfst_D (ps : List (Int × Int)) : (ps.map pD).map at0D = (ps.map (·.1)).map .int := by
  rw [List.map_map, List.map_map]; rfl
theorem psnd_D (ps : List (Int × Int)) : (ps.map pD).map at1D = (ps.map (·.2)).map .int := by
  rw [List.map_map, List.map_map]; rfl
theorem at_cut {cs : List Cut} {a : Nat} {c : Cut} (h : cs[a]? = some c) : atI (cs.map cD) (a : Int) = some (cD c) := atI_nat (by omega) (by rw [Int.toNat_natCast, List.getElem?_map, h]; rfl)
theorem gst_len2 {t saw : Int} {ss es : List (Int × Int)} : ∀ i, (gst t saw ss es i).2.length ≤ es.length
  | 0 => Nat.le_refl _
  | i + 1 => by
    have ih := gst_len2 (t := t) (saw := saw) (ss := ss) (es := es) i
    cases h : ss[i]? with
    | none =>
      unfold gst at ih ⊢
      rw [List.take_add_one, h]
      simp only [Option.toList_none, List.append_nil]
      exact ih
    | some x =>
      rw [gst_succ h]
      unfold gstep
      split
      · exact ih
      · exact Nat.le_trans List.length_erase_le ih
theorem pick2P {α : Type} {d a b : α} (h : d ∈ [a, b]) : d = a ∨ d = b := by simpa using h
theorem ex11 {ps : List (Int × Int)} (h : PairsOk 10 0 (cuts 10 0 0 [(0, 33), (5, 38)]) ps) : ps = [(1, 0)] := by
  have hc : cuts 10 0 0 [(0, 33), (5, 38)] = [(0, 3, 3), (5, 2, 8)] := by decide +kernel
  rw [hc] at h
  have hl := h.len
  rw [show mostP (stW [(0, 3, 3), (5, 2, 8)]) (enW [(0, 3, 3), (5, 2, 8)]) (10 - 0) = 1 by decide +kernel] at hl
  match ps, hl, h.mem with
  | [p], _, hm =>
    obtain ⟨a, b, ca, cb, e, h1, h2, h3, h4, h5⟩ := hm p List.mem_cons_self
    have ha : a = 1 := by
      match a, h1 with
      | 0, h1 => cases h1; exact absurd h3 (by decide)
      | 1, _ => rfl
      | a + 2, h1 => cases h1
    subst ha
    have hb : b = 0 := by
      match b, h2 with
      | 0, _ => rfl
      | 1, h2 => cases h1; cases h2; exact absurd h5 (by decide)
      | b + 2, h2 => cases h2
    subst hb
    rw [e]; rfl
end Tp

set_option linter.all false
set_option maxRecDepth 100000
set_option maxHeartbeats 4000000
namespace Tp
open PySem PySem.Spec PyProof.Rows L2 Tl
/-! TpA: fewest tiles, cheap offsets. -/
abbrev nd (t j saw : Int) (rs : List (Int × Int)) (o : Int) : Int := need t saw (cuts t j o rs)
structure Few (t j saw : Int) (rs : List (Int × Int)) (m o : Int) : Prop where
  lo : 0 ≤ o
  hi : o < t + j
  eq : m = nd t j saw rs o
  le : ∀ o', 0 ≤ o' → o' < t + j → leP (m, o) (nd t j saw rs o', o')
def chp (t j saw : Int) (rs : List (Int × Int)) (n : Int) : List Int := fil (fun i => decide (nd t j saw rs (0 + (i : Nat)) ≤ n)) (t + j).toNat
def s_krs (R : Int → Int → List (Int × Int) → Int → (D → Prop) → Prop) (CK CR CN : Addr) : Ct := fun ss k ex => ∃ kd rd sd, ss = [.d kd, .d rd, .d sd] ∧ (isKindD kd = false → ex (.ref CK)) ∧
  ∀ t j, kd = kD t j → IsKind t j → (isRowsD t j rd = false → ex (.ref CR)) ∧ ∀ rs, rd = rwsD rs → Rows t j rs → (isIntD sd 0 20 = false → ex (.ref CN)) ∧ ∀ saw, sd = .int saw → 0 ≤ saw → saw ≤ 20 → R t j rs saw k
def s_krsn (R : Int → Int → List (Int × Int) → Int → Int → (D → Prop) → Prop) (CK CR CN : Addr) : Ct := fun ss k ex => ∃ kd rd sd ed, ss = [.d kd, .d rd, .d sd, .d ed] ∧ (isKindD kd = false → ex (.ref CK)) ∧
  ∀ t j, kd = kD t j → IsKind t j → (isRowsD t j rd = false → ex (.ref CR)) ∧ ∀ rs, rd = rwsD rs → Rows t j rs → (isIntD sd 0 20 = false → ex (.ref CN)) ∧ ∀ saw, sd = .int saw → 0 ≤ saw → saw ≤ 20 →
    (isIntD ed 0 1000000000000000 = false → ex (.ref CN)) ∧ ∀ n, ed = .int n → 0 ≤ n → n ≤ 1000000000000000 → R t j rs saw n k
abbrev s_fewest_tiles : Addr → Addr → Addr → Ct := s_krs fun t j rs saw k => ∀ m o, Few t j saw rs m o → k (pD (m, o))
abbrev s_cheap_offsets : Addr → Addr → Addr → Ct := s_krsn fun t j rs saw n k => k (intsD (chp t j saw rs n))
theorem map_pD_inj : ∀ (a b : List (Int × Int)), a.map pD = b.map pD → a = b
  | [], [], _ => rfl
  | [], _ :: _, h => by cases h
  | _ :: _, [], h => by cases h
  | x :: a, y :: b, h => by
    rw [List.map_cons, List.map_cons] at h
    injection h with h1 h2
    rw [map_pD_inj a b h2, pD_inj h1]
section
variable {CK CR CN : Addr} {t j saw n : Int} {rs : List (Int × Int)} {k : D → Prop} {ex : Value → Prop}
theorem s_krs_ok {R : Int → Int → List (Int × Int) → Int → (D → Prop) → Prop} (h1 : IsKind t j) (h4 : Rows t j rs) (h5 : 0 ≤ saw) (h6 : saw ≤ 20) (h : R t j rs saw k) : s_krs R CK CR CN [.d (kD t j), .d (rwsD rs), .d (.int saw)] k ex := by
  refine ⟨_, _, _, rfl, fun z => absurd z (no_kind h1), ?_⟩
  intro t' j' e _
  cases e
  refine ⟨fun z => absurd z (no_rows h4), fun rs' e _ => ?_⟩
  have e1 : rs = rs' := map_pD_inj _ _ (PyData.tuple.inj e)
  subst e1
  refine ⟨fun z => absurd z (no_int h5 h6), fun s' e _ _ => ?_⟩
  cases e
  exact h
theorem s_krs_badR {R : Int → Int → List (Int × Int) → Int → (D → Prop) → Prop} {rd sd : D} (h1 : IsKind t j) (h4 : isRowsD t j rd = false) (hx : ex (.ref CR)) : s_krs R CK CR CN [.d (kD t j), .d rd, .d sd] k ex := by
  refine ⟨_, _, _, rfl, fun z => absurd z (no_kind h1), ?_⟩
  intro t' j' e _
  cases e
  refine ⟨fun _ => hx, fun rs' e h => ?_⟩
  subst e
  exact absurd h4 (no_rows h)
theorem s_krsn_ok {R : Int → Int → List (Int × Int) → Int → Int → (D → Prop) → Prop} (h1 : IsKind t j) (h4 : Rows t j rs) (h5 : 0 ≤ saw) (h6 : saw ≤ 20) (h7 : 0 ≤ n) (h8 : n ≤ 1000000000000000) (h : R t j rs saw n k) : s_krsn R CK CR CN [.d (kD t j), .d (rwsD rs), .d (.int saw), .d (.int n)] k ex := by
  refine ⟨_, _, _, _, rfl, fun z => absurd z (no_kind h1), ?_⟩
  intro t' j' e _
  cases e
  refine ⟨fun z => absurd z (no_rows h4), fun rs' e _ => ?_⟩
  have e1 : rs = rs' := map_pD_inj _ _ (PyData.tuple.inj e)
  subst e1
  refine ⟨fun z => absurd z (no_int h5 h6), fun s' e _ _ => ?_⟩
  cases e
  refine ⟨fun z => absurd z (no_int h7 h8), fun s' e _ _ => ?_⟩
  cases e
  exact h
theorem s_krsn_badE {R : Int → Int → List (Int × Int) → Int → Int → (D → Prop) → Prop} {ed : D} (h1 : IsKind t j) (h4 : Rows t j rs) (h5 : 0 ≤ saw) (h6 : saw ≤ 20) (h7 : isIntD ed 0 1000000000000000 = false) (hx : ex (.ref CN)) : s_krsn R CK CR CN [.d (kD t j), .d (rwsD rs), .d (.int saw), .d ed] k ex := by
  refine ⟨_, _, _, _, rfl, fun z => absurd z (no_kind h1), ?_⟩
  intro t' j' e _
  cases e
  refine ⟨fun z => absurd z (no_rows h4), fun rs' e _ => ?_⟩
  have e1 : rs = rs' := map_pD_inj _ _ (PyData.tuple.inj e)
  subst e1
  refine ⟨fun z => absurd z (no_int h5 h6), fun s' e _ _ => ?_⟩
  cases e
  refine ⟨fun _ => hx, fun s' e a b => ?_⟩
  subst e
  exact absurd h7 (no_int a b)
end
/-- the numbers for all offsets -/
def dueL (t j saw : Int) (rs : List (Int × Int)) : List Int := (List.range (t + j).toNat).map fun i : Nat => nd t j saw rs (0 + (i : Nat))
theorem dueL_len {t j saw : Int} {rs : List (Int × Int)} : (dueL t j saw rs).length = (t + j).toNat := by unfold dueL; simp
theorem dueL_at {t j saw : Int} {rs : List (Int × Int)} {i : Nat} (h : i < (t + j).toNat) : (dueL t j saw rs)[i]? = some (nd t j saw rs (i : Int)) := by
  unfold dueL
  rw [List.getElem?_map, List.getElem?_range h]
  show some (nd t j saw rs (0 + (i : Nat))) = _
  rw [Int.zero_add]
theorem dueL_mem {t j saw : Int} {rs : List (Int × Int)} {m : Int} (h : m ∈ dueL t j saw rs) : ∃ i : Nat, i < (t + j).toNat ∧ m = nd t j saw rs (i : Int) := by
  obtain ⟨i, hi, e⟩ := List.mem_map.mp h
  exact ⟨i, List.mem_range.mp hi, by rw [← e, Int.zero_add]⟩
theorem dueL_in {t j saw : Int} {rs : List (Int × Int)} {o : Int} (h0 : 0 ≤ o) (h : o < t + j) : nd t j saw rs o ∈ dueL t j saw rs := by
  have := dueL_at (t := t) (j := j) (saw := saw) (rs := rs) (i := o.toNat) (by omega)
  rw [Int.toNat_of_nonneg h0] at this
  exact List.mem_of_getElem? this
/-- where n first stands -/
theorem int_first : ∀ {ns : List Int} {n : Int}, n ∈ ns → ∃ j : Nat, ns[j]? = some n ∧ ∀ i : Nat, i < j → ns[i]? ≠ some n
  | [], n, h => nomatch h
  | a :: r, n, h => by
    by_cases e : a = n
    · exact ⟨(0 : Nat), by rw [e]; rfl, fun (i : Nat) (hi : i < 0) => absurd hi (Nat.not_lt_zero _)⟩
    · have hr : n ∈ r := by
        rcases List.mem_cons.mp h with z | z
        · exact absurd z.symm e
        · exact z
      obtain ⟨j, h2, h3⟩ := int_first hr
      refine ⟨j + 1, h2, fun i hi => ?_⟩
      cases i with
      | zero => intro z; exact e (Option.some.inj z)
      | succ i => exact h3 i (Nat.lt_of_succ_lt_succ hi)
theorem few_is {t j saw m o md : Int} {rs : List (Int × Int)} {jj : Nat} (h : Few t j saw rs m o) (h1 : md ∈ dueL t j saw rs) (h2 : ∀ y ∈ dueL t j saw rs, md ≤ y) (h3 : (dueL t j saw rs)[jj]? = some md) (h4 : ∀ i, i < jj → (dueL t j saw rs)[i]? ≠ some md) : m = md ∧ o = (jj : Int) := by
  have hj := (List.getElem?_eq_some_iff.mp h3).1
  rw [dueL_len] at hj
  rw [dueL_at hj] at h3
  have e3 := Option.some.inj h3
  have l1 := h.lo; have l2 := h.hi
  have a := h.le (jj : Int) (by omega) (by omega)
  have b := h2 _ (dueL_in (t := t) (j := j) (saw := saw) (rs := rs) h.lo h.hi)
  rw [← h.eq] at b
  unfold leP at a
  simp only at a
  have hm : m = md := by omega
  refine ⟨hm, ?_⟩
  have c : ¬ o.toNat < jj := fun z => h4 _ z (by rw [dueL_at (by omega), Int.toNat_of_nonneg h.lo, ← h.eq, hm])
  omega
def chpP (t j saw : Int) (rs : List (Int × Int)) (n : Int) : D → Bool := fun d => match d with | .int o => decide (nd t j saw rs o ≤ n) | _ => false
theorem chp_list (t j saw : Int) (rs : List (Int × Int)) (n : Int) : PyData.list (((rngD 0 (t + j).toNat).filter (chpP t j saw rs n)).map fun d => d) = intsD (chp t j saw rs n) := by
  have gen : ∀ (l : List Nat), (List.map (fun j : Nat => PyData.int (0 + (j : Nat))) l).filter (chpP t j saw rs n) = (l.filter fun i => decide (nd t j saw rs (0 + (i : Nat)) ≤ n)).map fun i : Nat => PyData.int (0 + (i : Nat)) := by
    intro l
    induction l with
    | nil => rfl
    | cons x l ih =>
      rw [List.map_cons, List.filter_cons, List.filter_cons]
      show (if decide (nd t j saw rs (0 + (x : Nat)) ≤ n) = true then _ else _) = List.map _ (if decide (nd t j saw rs (0 + (x : Nat)) ≤ n) = true then _ else _)
      split
      · rw [List.map_cons, ih]
      · exact ih
  rw [List.map_id']
  show PyData.list ((List.map (fun j : Nat => PyData.int (0 + (j : Nat))) (List.range (t + j).toNat)).filter _) = PyData.list ((fil _ _).map .int)
  rw [gen]
  unfold fil
  rw [List.map_map]
  refine congrArg PyData.list (List.map_congr_left fun i _ => ?_)
  show PyData.int (0 + (i : Nat)) = .int (i : Nat)
  rw [Int.zero_add]
/-! bounds -/
theorem whl_bd {t j o s e : Int} (hK : IsKind t j) (hR : IsRow t j s e) : 1 ≤ whl t j o s e ∧ whl t j o s e ≤ 2000000000020 := by
  have k1 := hK.t1; have k2 := hK.t2; have k3 := hK.j1; have k4 := hK.j2
  have r1 := hR.s1; have r2 := hR.s2; have r3 := hR.e1; have r4 := hR.e2; have r5 := hR.ln
  have h0 := mod_lo (o - s) (s := t + j) (by omega)
  have h1 := mod_hi (o - s) (s := t + j) (by omega)
  unfold whl
  refine ⟨(Int.le_ediv_iff_mul_le (by omega)).mpr (by omega), ?_⟩
  refine Int.le_trans (Int.ediv_le_self _ (by omega)) (by omega)
theorem most_bd (r : Int) (S E : List Int) : 0 ≤ mostP S E r ∧ mostP S E r ≤ S.length := by
  obtain ⟨L, m, hl⟩ := most_has r S E
  refine ⟨by omega, ?_⟩
  have sub : ∀ (a b : List Int), (∀ x, a.count x ≤ b.count x) → a.length ≤ b.length := by
    intro a
    induction a with
    | nil => intro b _; exact Nat.zero_le _
    | cons x a ih =>
      intro b h
      have hx : x ∈ b := mem_cnt (by have := h x; rw [cnt_cons, if_pos rfl] at this; omega)
      have hp := List.perm_cons_erase hx
      have := ih (b.erase x) fun y => by
        have h3 := h y
        rw [cnt_cons, hp.count_eq, cnt_cons] at h3
        omega
      rw [hp.length_eq, List.length_cons, List.length_cons]
      omega
  have := sub _ _ m.a
  rw [List.length_map] at this
  omega
theorem sum_bd {lo hi : Int} : ∀ {ns : List Int}, (∀ x ∈ ns, lo ≤ x ∧ x ≤ hi) → lo * (ns.length : Int) ≤ ns.sum ∧ ns.sum ≤ hi * (ns.length : Int)
  | [], _ => by simp
  | x :: ns, h => by
    obtain ⟨a, b⟩ := sum_bd fun y hy => h y (List.mem_cons_of_mem _ hy)
    obtain ⟨c, d⟩ := h x List.mem_cons_self
    rw [List.sum_cons, List.length_cons, Int.natCast_succ, Int.mul_add, Int.mul_add, Int.mul_one, Int.mul_one]
    omega
theorem nd_bd {t j saw o : Int} {rs : List (Int × Int)} (hK : IsKind t j) (hR : Rows t j rs) : 1 ≤ nd t j saw rs o ∧ nd t j saw rs o ≤ 100000000000000 := by
  have k1 := hR.lo; have k2 := hR.hi
  obtain ⟨a, b⟩ := sum_bd (lo := 1) (hi := 2000000000020) (ns := (cuts t j o rs).map (·.2.1)) fun x hx => by
    rw [List.map_map] at hx
    obtain ⟨p, hp, rfl⟩ := List.mem_map.mp hx
    exact whl_bd hK (hR.all p hp)
  have c := most_bd (t - saw) (stW (cuts t j o rs)) (enW (cuts t j o rs))
  have d := stW_len (cuts t j o rs)
  have e := enW_len (cuts t j o rs)
  rw [List.length_map] at d e
  rw [List.length_map, List.length_map] at a b
  unfold nd need
  omega
def s_law_needed : Ct := fun ss k _ => ∃ t j o rs saw, ss = [.d (kD t j), .d (.int o), .d (rwsD rs), .d (.int saw)] ∧ IsKind t j ∧ Rows t j rs ∧ rs.length ≤ 4 ∧ k (.int (nd t j saw rs o))
theorem few11 {m o : Int} (h : Few 10 0 0 [(0, 33), (5, 38)] m o) : m = 7 ∧ o = 0 := by
  have l1 := h.lo; have l2 := h.hi; have e := h.eq
  have a := h.le 0 (by decide) (by decide)
  rw [show nd 10 0 0 [(0, 33), (5, 38)] 0 = 7 by decide +kernel] at a
  unfold leP at a
  simp only at a
  have all : ∀ i : Nat, i < 10 → 7 ≤ nd 10 0 0 [(0, 33), (5, 38)] (i : Int) := by decide +kernel
  have b := all o.toNat (by omega)
  rw [Int.toNat_of_nonneg l1, ← e] at b
  omega
theorem due_at {t j saw : Int} {rs : List (Int × Int)} {i : Nat} (h : i < (t + j).toNat) : atI ((dueL t j saw rs).map PyData.int) (0 + (i : Nat)) = some (.int (nd t j saw rs (0 + (i : Nat)))) :=
  atI_nat (by omega) (by
    rw [show ((0 : Int) + (i : Nat)).toNat = i by omega, List.getElem?_map, dueL_at h, Int.zero_add]; rfl)
theorem row_at {rs : List (Int × Int)} (h : 1 ≤ rs.length) : atI (rs.map pD) 0 = some (pD (rs.getD 0 (0, 0))) := by
  cases rs with
  | nil => simp at h
  | cons p rs => exact atI_zero _ _
end Tp

set_option linter.all false
set_option maxRecDepth 100000
set_option maxHeartbeats 4000000
namespace Tp
open PySem PySem.Spec PyProof.Rows L2 Tl
/-! TpD: tiles of many rows. -/
theorem sum_app : ∀ (a b : List Int), (a ++ b).sum = a.sum + b.sum
  | [], b => by simp
  | x :: a, b => by rw [List.cons_append, List.sum_cons, List.sum_cons, sum_app a b]; omega
theorem sum_rev : ∀ (a : List Int), a.reverse.sum = a.sum
  | [] => rfl
  | x :: a => by rw [List.reverse_cons, sum_app, sum_rev a, List.sum_cons, List.sum_cons, List.sum_nil]; omega
theorem sum_erase : ∀ {a : List Int} {x : Int}, x ∈ a → a.sum = x + (a.erase x).sum
  | [], x, h => nomatch h
  | y :: a, x, h => by
    by_cases e : y = x
    · rw [e, List.erase_cons_head, List.sum_cons]
    · have hm : x ∈ a := by
        rcases List.mem_cons.mp h with z | z
        · exact absurd z.symm e
        · exact z
      rw [List.erase_cons_tail (by rw [beq_iff_eq]; exact e), List.sum_cons, List.sum_cons, sum_erase hm]; omega
theorem cnt_er {a : List Int} {x : Int} (h : x ∈ a) (y : Int) : a.count y = (a.erase x).count y + if x = y then 1 else 0 := by
  rw [(List.perm_cons_erase h).count_eq, cnt_cons]
theorem sum_le {t : Int} : ∀ {a : List Int}, (∀ x ∈ a, x ≤ t) → a.sum ≤ t * (a.length : Int)
  | [], _ => by simp
  | x :: a, h => by
    have := sum_le fun y hy => h y (List.mem_cons_of_mem _ hy)
    have := h x List.mem_cons_self
    rw [List.sum_cons, List.length_cons, Int.natCast_succ, Int.mul_add, Int.mul_one]
    omega
theorem mt_sum {t r : Int} (hr : r ≤ t) : ∀ {L : List (Int × Int)} {S E : List Int}, (∀ x ∈ S, x ≤ t) → (∀ x ∈ E, x ≤ t) → Mt S E r L → S.sum + E.sum ≤ t * ((S.length : Int) + E.length - L.length)
  | [], S, E, hS, hE, _ => by
    have a := sum_le hS
    have b := sum_le hE
    rw [List.length_nil, show ((S.length : Int) + E.length - ((0 : Nat) : Int)) = S.length + E.length by omega, Int.mul_add]
    omega
  | p :: L, S, E, hS, hE, m => by
    have h1 : p.1 ∈ S := mem_cnt (by have := m.a p.1; rw [List.map_cons, cnt_cons, if_pos rfl] at this; omega)
    have h2 : p.2 ∈ E := mem_cnt (by have := m.b p.2; rw [List.map_cons, cnt_cons, if_pos rfl] at this; omega)
    have m2 : Mt (S.erase p.1) (E.erase p.2) r L := by
      refine ⟨fun x => ?_, fun x => ?_, fun q hq => m.c q (List.mem_cons_of_mem _ hq)⟩
      · have h := m.a x
        rw [List.map_cons, cnt_cons, cnt_er h1] at h
        omega
      · have h := m.b x
        rw [List.map_cons, cnt_cons, cnt_er h2] at h
        omega
    have ih := mt_sum hr (fun x hx => hS x (List.mem_of_mem_erase hx)) (fun x hx => hE x (List.mem_of_mem_erase hx)) m2
    have c := m.c p List.mem_cons_self
    have l1 := (List.perm_cons_erase h1).length_eq
    have l2 := (List.perm_cons_erase h2).length_eq
    rw [List.length_cons] at l1 l2
    rw [sum_erase h1, sum_erase h2, l1, l2, List.length_cons]
    rw [show (((S.erase p.1).length + 1 : Nat) : Int) + (((E.erase p.2).length + 1 : Nat) : Int) - ((L.length + 1 : Nat) : Int) = ((S.erase p.1).length : Int) + (E.erase p.2).length - L.length + 1 by omega, Int.mul_add, Int.mul_one]
    omega
theorem most_sum {t r : Int} {S E : List Int} (hr : r ≤ t) (hS : ∀ x ∈ S, x ≤ t) (hE : ∀ x ∈ E, x ≤ t) : S.sum + E.sum ≤ t * ((S.length : Int) + E.length - mostP S E r) := by
  obtain ⟨L, m, hl⟩ := most_has r S E
  rw [← hl]
  exact mt_sum hr hS hE m
theorem most_swap (S E : List Int) (r : Int) : mostP E S r = mostP S E r := by
  have half : ∀ S E : List Int, mostP S E r ≤ mostP E S r := fun S E => by
    obtain ⟨L, m, hl⟩ := most_has r S E
    have := most_top (S := E) (E := S) (r := r) (L := L.map fun p => (p.2, p.1)) ⟨fun x => by rw [List.map_map]; exact m.b x, fun x => by rw [List.map_map]; exact m.a x, fun p hp => by
      obtain ⟨q, hq, rfl⟩ := List.mem_map.mp hp
      have := m.c q hq
      simp only
      omega⟩
    rw [List.length_map] at this
    omega
  exact Int.le_antisymm (half E S) (half S E)
theorem most_mono {S E : List Int} {r r' : Int} (h : r ≤ r') : mostP S E r ≤ mostP S E r' := by
  obtain ⟨L, m, hl⟩ := most_has r S E
  have := most_top (S := S) (E := E) (r := r') (L := L) ⟨m.a, m.b, fun p hp => Int.le_trans (m.c p hp) h⟩
  omega
theorem most_app {S E S' E' : List Int} {r : Int} : mostP S E r + mostP S' E' r ≤ mostP (S ++ S') (E ++ E') r := by
  obtain ⟨L, m, hl⟩ := most_has r S E
  obtain ⟨L', m', hl'⟩ := most_has r S' E'
  have := most_top (S := S ++ S') (E := E ++ E') (r := r) (L := L ++ L') ⟨fun x => by rw [List.map_append, List.count_append, List.count_append]; have := m.a x; have := m'.a x; omega, fun x => by rw [List.map_append, List.count_append, List.count_append]; have := m.b x; have := m'.b x; omega, fun p hp => (List.mem_append.mp hp).elim (m.c p) (m'.c p)⟩
  rw [List.length_append] at this
  omega
/-! tiles -/
theorem need_rev (t saw : Int) (cs : List Cut) : need t saw cs.reverse = need t saw cs := by
  unfold need stW enW
  rw [List.map_reverse, List.map_reverse, List.map_reverse, List.filter_reverse, List.filter_reverse, List.length_reverse, List.length_reverse, sum_rev]
  rw [most_eq (S := ((cs.map (·.1)).filter fun x => decide (0 < x)).reverse) (E := ((cs.map (·.2.2)).filter fun x => decide (0 < x)).reverse) (S' := (cs.map (·.1)).filter fun x => decide (0 < x)) (E' := (cs.map (·.2.2)).filter fun x => decide (0 < x)) (fun x => List.count_reverse) (fun x => List.count_reverse)]
def swapC (c : Cut) : Cut := (c.2.2, c.2.1, c.1)
theorem need_swap (t saw : Int) (cs : List Cut) : need t saw (cs.map swapC) = need t saw cs := by
  have e1 : stW (cs.map swapC) = enW cs := by unfold stW enW; rw [List.map_map]; rfl
  have e2 : enW (cs.map swapC) = stW cs := by unfold stW enW; rw [List.map_map]; rfl
  have e3 : (cs.map swapC).map (·.2.1) = cs.map (·.2.1) := by rw [List.map_map]; rfl
  unfold need
  rw [e1, e2, e3, most_swap]
  omega
theorem need_app (t saw : Int) (cs ds : List Cut) : need t saw (cs ++ ds) ≤ need t saw cs + need t saw ds := by
  have e1 : stW (cs ++ ds) = stW cs ++ stW ds := by unfold stW; rw [List.map_append, List.filter_append]
  have e2 : enW (cs ++ ds) = enW cs ++ enW ds := by unfold enW; rw [List.map_append, List.filter_append]
  have := most_app (S := stW cs) (E := enW cs) (S' := stW ds) (E' := enW ds) (r := t - saw)
  unfold need
  rw [e1, e2, List.map_append, sum_app, List.length_append, List.length_append]
  omega
theorem need_mono {t saw saw' : Int} (cs : List Cut) (h : saw ≤ saw') : need t saw cs ≤ need t saw' cs := by
  have := most_mono (S := stW cs) (E := enW cs) (r := t - saw') (r' := t - saw) (by omega)
  unfold need
  omega
theorem need_more (t saw : Int) (c : Cut) (cs : List Cut) : need t saw ((c.1, c.2.1 + 1, c.2.2) :: cs) = need t saw (c :: cs) + 1 := by
  have e1 : stW ((c.1, c.2.1 + 1, c.2.2) :: cs) = stW (c :: cs) := rfl
  have e2 : enW ((c.1, c.2.1 + 1, c.2.2) :: cs) = enW (c :: cs) := rfl
  unfold need
  rw [e1, e2, List.map_cons, List.map_cons, List.sum_cons, List.sum_cons]
  simp only
  omega
def lenC (t : Int) (c : Cut) : Int := c.1 + c.2.1 * t + c.2.2
theorem pos_sum : ∀ {a : List Int}, (∀ x ∈ a, 0 ≤ x) → (a.filter fun x => decide (0 < x)).sum = a.sum
  | [], _ => rfl
  | x :: a, h => by
    have ih := pos_sum fun y hy => h y (List.mem_cons_of_mem _ hy)
    have h0 := h x List.mem_cons_self
    by_cases hx : 0 < x
    · rw [List.filter_cons_of_pos (by simpa using hx), List.sum_cons, List.sum_cons, ih]
    · rw [List.filter_cons_of_neg (by simpa using hx), List.sum_cons, ih]; omega
theorem len_sum (t : Int) : ∀ cs : List Cut, (cs.map (lenC t)).sum = (cs.map (·.1)).sum + (cs.map (·.2.1)).sum * t + (cs.map (·.2.2)).sum
  | [] => by simp
  | c :: cs => by
    simp only [List.map_cons, List.sum_cons, len_sum t cs, lenC, Int.add_mul]
    omega
theorem need_len {t saw : Int} {cs : List Cut} (hs : 0 ≤ saw) (h : ∀ c ∈ cs, (0 ≤ c.1 ∧ c.1 ≤ t) ∧ 0 ≤ c.2.2 ∧ c.2.2 ≤ t) : (cs.map (lenC t)).sum ≤ need t saw cs * t := by
  have a := most_sum (t := t) (r := t - saw) (S := stW cs) (E := enW cs) (by omega) (fun x hx => by
    obtain ⟨c, hc, rfl⟩ := List.mem_map.mp (List.mem_filter.mp hx).1
    exact (h c hc).1.2) (fun x hx => by
    obtain ⟨c, hc, rfl⟩ := List.mem_map.mp (List.mem_filter.mp hx).1
    exact (h c hc).2.2)
  have b : (stW cs).sum = (cs.map (·.1)).sum := pos_sum fun x hx => by
    obtain ⟨c, hc, rfl⟩ := List.mem_map.mp hx
    exact (h c hc).1.1
  have c : (enW cs).sum = (cs.map (·.2.2)).sum := pos_sum fun x hx => by
    obtain ⟨c, hc, rfl⟩ := List.mem_map.mp hx
    exact (h c hc).2.1
  rw [len_sum, ← b, ← c]
  unfold need
  rw [show (cs.map (·.2.1)).sum + ((stW cs).length : Int) + ((enW cs).length : Int) - mostP (stW cs) (enW cs) (t - saw) = (cs.map (·.2.1)).sum + (((stW cs).length : Int) + ((enW cs).length : Int) - mostP (stW cs) (enW cs) (t - saw)) by omega, Int.add_mul, Int.mul_comm (((stW cs).length : Int) + _ - _) t]
  omega
/-! rows -/
theorem cut_bd {t j o : Int} {p : Int × Int} (ht : 0 < t) : (0 ≤ (cutO t j o p).1 ∧ (cutO t j o p).1 ≤ t) ∧ 0 ≤ (cutO t j o p).2.2 ∧ (cutO t j o p).2.2 ≤ t :=
  ⟨⟨mod_lo _ ht, Int.le_of_lt (mod_hi _ ht)⟩, mod_lo _ ht, Int.le_of_lt (mod_hi _ ht)⟩
theorem nd_len {t j o saw : Int} {rs : List (Int × Int)} (ht : 0 < t) (hs : 0 ≤ saw) : ((cuts t j o rs).map (lenC t)).sum ≤ nd t j saw rs o * t :=
  need_len hs fun c hc => by
    obtain ⟨p, _, rfl⟩ := List.mem_map.mp hc
    exact cut_bd ht
theorem nd_rev (t j saw o : Int) (rs : List (Int × Int)) : nd t j saw rs.reverse o = nd t j saw rs o := by
  show need t saw (rs.reverse.map _) = need t saw (rs.map _)
  rw [List.map_reverse, need_rev]
abbrev bkR (p : Int × Int) : Int × Int := (0 - p.2, 0 - p.1)
theorem cut_back {t j o : Int} (ht : 0 < t) (hj : 0 ≤ j) (p : Int × Int) : cutO t j ((0 - o - t) % (t + j)) (bkR p) = swapC (cutO t j o p) := by
  have h := rp_mirror (t := t) (j := j) (o := o) (s := p.1) (e := p.2) ht hj
  simp only [PyData.tuple.injEq, List.cons.injEq, PyData.int.injEq, and_true] at h
  unfold cutO swapC bkR
  exact Prod.ext h.1 (Prod.ext h.2.1 h.2.2)
theorem nd_back {t j saw o : Int} {rs : List (Int × Int)} (ht : 0 < t) (hj : 0 ≤ j) : nd t j saw (rs.map bkR) ((0 - o - t) % (t + j)) = nd t j saw rs o := by
  show need t saw ((rs.map bkR).map _) = _
  rw [List.map_map, show (cutO t j ((0 - o - t) % (t + j)) ∘ bkR) = swapC ∘ cutO t j o from funext fun p => cut_back ht hj p, ← List.map_map, need_swap]
theorem nd_step {t j saw o : Int} {p : Int × Int} {rs : List (Int × Int)} (ht : 0 < t) (hj : 0 ≤ j) : nd t j saw ((p.1, p.2 + (t + j)) :: rs) o = nd t j saw (p :: rs) o + 1 := by
  have h := rp_step (t := t) (j := j) (o := o) (s := p.1) (e := p.2) ht hj
  simp only [PyData.tuple.injEq, List.cons.injEq, PyData.int.injEq, and_true, true_and] at h
  show need t saw (cutO t j o (p.1, p.2 + (t + j)) :: cuts t j o rs) = need t saw (cutO t j o p :: cuts t j o rs) + 1
  rw [← need_more]
  refine congrArg (fun c => need t saw (c :: cuts t j o rs)) ?_
  unfold cutO
  exact Prod.ext rfl (Prod.ext h.1 h.2)
theorem nd_cut {t j saw o : Int} {rs : List (Int × Int)} (n : Nat) : nd t j saw rs o ≤ nd t j saw (rs.take n) o + nd t j saw (rs.drop n) o := by
  have := need_app t saw ((rs.take n).map (cutO t j o)) ((rs.drop n).map (cutO t j o))
  rw [← List.map_append, List.take_append_drop] at this
  exact this
theorem fil_none {P : Nat → Bool} : ∀ {n : Nat}, (∀ i, i < n → P i = false) → fil P n = []
  | 0, _ => rfl
  | n + 1, h => by rw [fil_f (h n (Nat.lt_succ_self n)), fil_none fun i hi => h i (by omega)]
theorem fil_head {P : Nat → Bool} {w : Nat} (h1 : P w = true) (h2 : ∀ i, i < w → P i = false) : ∀ {n : Nat}, w < n → ∃ r, fil P n = (w : Int) :: r
  | 0, h => absurd h (Nat.not_lt_zero _)
  | n + 1, h => by
    by_cases e : w = n
    · subst e
      exact ⟨[], by rw [fil_t h1, fil_none h2]; rfl⟩
    · obtain ⟨r, hr⟩ := fil_head h1 h2 (n := n) (by omega)
      cases hp : P n with
      | true => exact ⟨r ++ [(n : Int)], by rw [fil_t hp, hr]; rfl⟩
      | false => exact ⟨r, by rw [fil_f hp, hr]⟩
theorem chp_head {t j saw m w : Int} {rs : List (Int × Int)} (h : Few t j saw rs m w) : atI ((chp t j saw rs m).map PyData.int) 0 = some (.int w) := by
  have l1 := h.lo; have l2 := h.hi; have e := h.eq
  obtain ⟨r, hr⟩ := fil_head (P := fun i => decide (nd t j saw rs (0 + (i : Nat)) ≤ m)) (w := w.toNat) (n := (t + j).toNat) (decide_eq_true (by rw [Int.zero_add, Int.toNat_of_nonneg l1, ← e]; exact Int.le_refl _)) (fun i hi => decide_eq_false fun z => by
    rw [Int.zero_add] at z
    have := h.le (i : Int) (by omega) (by omega)
    unfold leP at this
    simp only at this
    omega) (by omega)
  unfold chp
  rw [hr, Int.toNat_of_nonneg l1]
  exact atI_zero _ _
theorem chp_none {t j saw m w : Int} {rs : List (Int × Int)} (h : Few t j saw rs m w) : chp t j saw rs (m - 1) = [] :=
  fil_none fun i hi => decide_eq_false fun z => by
    rw [Int.zero_add] at z
    have := h.le (i : Int) (by omega) (by omega)
    unfold leP at this
    simp only at this
    omega
theorem Rows.take {t j : Int} {rs : List (Int × Int)} {n : Nat} (h : Rows t j rs) (h1 : 1 ≤ n) : Rows t j (rs.take n) :=
  ⟨by have := h.lo; rw [List.length_take]; omega, by have := h.hi; rw [List.length_take]; omega, fun p hp => h.all p (List.mem_of_mem_take hp)⟩
theorem Rows.drop {t j : Int} {rs : List (Int × Int)} {n : Nat} (h : Rows t j rs) (h1 : n < rs.length) : Rows t j (rs.drop n) :=
  ⟨by rw [List.length_drop]; omega, by have := h.hi; rw [List.length_drop]; omega, fun p hp => h.all p (List.mem_of_mem_drop hp)⟩
theorem Rows.rev {t j : Int} {rs : List (Int × Int)} (h : Rows t j rs) : Rows t j rs.reverse :=
  ⟨by rw [List.length_reverse]; exact h.lo, by rw [List.length_reverse]; exact h.hi, fun p hp => h.all p (List.mem_reverse.mp hp)⟩
theorem Rows.back {t j : Int} {rs : List (Int × Int)} (h : Rows t j rs) : Rows t j (rs.map bkR) :=
  ⟨by rw [List.length_map]; exact h.lo, by rw [List.length_map]; exact h.hi, fun p hp => by
    obtain ⟨q, hq, rfl⟩ := List.mem_map.mp hp
    have r := h.all q hq
    have r1 := r.s1; have r2 := r.s2; have r3 := r.e1; have r4 := r.e2; have r5 := r.ln
    exact ⟨by simp only; omega, by simp only; omega, by simp only; omega, by simp only; omega, by simp only; omega⟩⟩
def lenD (t : Int) : D → D := fun d => match d with | .tuple [.int a, .int b, .int c] => .int (lenC t (a, b, c)) | _ => .none
theorem lenD_map {t : Int} {cs : List Cut} : (cs.map cD).map (lenD t) = (cs.map (lenC t)).map .int := by
  rw [List.map_map, List.map_map]; rfl
def bkD : D → D := fun d => match d with | .tuple [.int s, .int e] => .tuple [.int (0 - e), .int (0 - s)] | _ => .none
theorem bkD_map {rs : List (Int × Int)} : (rs.map pD).map bkD = (rs.map bkR).map pD := by
  rw [List.map_map, List.map_map]; rfl
def s_law_far_rows : Ct := fun ss k _ => ∃ b t j, ss = [.bag b, .d (kD t j)] ∧ IsKind t j ∧ ∀ rs, Rows t j rs → (∀ p ∈ rs, p.2 ≤ 500000000000) → k (rwsD rs)
theorem few13 {m o : Int} (h : Few 1 0 20 [(0, 5), (3, 9)] m o) : m = 11 ∧ o = 0 := by
  have l1 := h.lo; have l2 := h.hi; have e := h.eq
  have e0 : o = 0 := by omega
  subst e0
  exact ⟨by rw [e]; decide +kernel, rfl⟩
end Tp

set_option linter.all false
set_option maxRecDepth 100000
set_option maxHeartbeats 4000000
namespace Tp
open PySem PySem.Spec PyProof.Rows L2 Tl
/-! TpO: the worked rooms. -/
/-! two opposite borders without joints -/
abbrev opB (t r : Int) : List D := [bD 0 true, bD (7 * t + r) false]
theorem opR {t o : Int} (ht : 0 < t) (h0 : 0 ≤ o) (h1 : o < t) : width t 0 o 0 true = if o = 0 then t else o := by
  rw [width_r ht (Int.le_refl _), Int.add_zero]
  by_cases e : o = 0
  · rw [if_pos e, e, Int.sub_zero, Int.zero_emod]; omega
  · rw [if_neg e, mod_up (by omega) (by omega) ht]; omega
theorem opM {t r o : Int} (ht : 0 < t) (hr : 0 ≤ r) (hr1 : r < t) (h0 : 0 ≤ o) (h1 : o < t) : (7 * t + r - o) % t = if o ≤ r then r - o else r - o + t := by
  rw [show 7 * t + r - o = (r - o) + t * 7 by omega, mod_add_mul]
  by_cases e : o ≤ r
  · rw [if_pos e, mod_small (by omega) (by omega)]
  · rw [if_neg e, mod_up (by omega) (by omega) ht]
theorem opL {t r o : Int} (ht : 0 < t) (hr : 0 ≤ r) (hr1 : r < t) (h0 : 0 ≤ o) (h1 : o < t) : width t 0 o (7 * t + r) false = if o = r then t else if o < r then r - o else r - o + t := by
  rw [width_l ht (Int.le_refl _), Int.add_zero]
  unfold rst
  rw [opM ht hr hr1 h0 h1]
  (repeat' split) <;> omega
theorem opN {t r o : Int} (ht : 0 < t) (hr : 0 ≤ r) (hr1 : r < t) (h0 : 0 ≤ o) (h1 : o < t) : nar t 0 o (opB t r) = min (if o = 0 then t else o) (min (if o = r then t else if o < r then r - o else r - o + t) t) := by
  show min (wz t 0 o (bD 0 true)) (min (wz t 0 o (bD (7 * t + r) false)) t) = _
  rw [wz_bD, wz_bD, opR ht h0 h1, opL ht hr hr1 h0 h1]
  (repeat' split) <;> omega
theorem op_all {t r : Int} (hr1 : r ≤ 7000) (hr0 : 0 ≤ r) (ht : 0 < t) (ht2 : t ≤ 500) : IsBorders (opB t r) :=
  two_b (p := 0) (q := 7 * t + r) (a := true) (c := false) ⟨by decide, by decide⟩ ⟨by omega, by omega⟩
theorem op_widest {t r : Int} (ht : 0 < t) (ht2 : t ≤ 500) (hr : 0 ≤ r) (hr1 : r < t) : widest t 0 (opB t r) = if r = 0 then t else max r ((t + r) / 2) := by
  symm
  refine widest_is ht (Int.le_refl _) (op_all (by omega) hr ht ht2).all ?_ fun y hy => ?_
  · -- where it is met
    have met : ∀ o : Int, 0 ≤ o → o < t → (if r = 0 then t else max r ((t + r) / 2)) = nar t 0 o (opB t r) → (if r = 0 then t else max r ((t + r) / 2)) ∈ (List.range (t + 0).toNat).map fun i : Nat => nar t 0 (0 + (i : Int)) (opB t r) := fun o h0 h1 e =>
      List.mem_map.mpr ⟨o.toNat, List.mem_range.mpr (by omega), by rw [Int.zero_add, Int.toNat_of_nonneg h0]; exact e.symm⟩
    by_cases z : r = 0
    · refine met 0 (Int.le_refl _) ht ?_
      rw [opN ht hr hr1 (Int.le_refl _) ht]
      (repeat' split) <;> omega
    · by_cases y : (t + r) / 2 ≤ r
      · refine met r hr hr1 ?_
        rw [opN ht hr hr1 hr hr1]
        (repeat' split) <;> omega
      · refine met ((t + r) / 2) (by omega) (by omega) ?_
        rw [opN ht hr hr1 (by omega) (by omega)]
        (repeat' split) <;> omega
  · obtain ⟨i, hi, rfl⟩ := List.mem_map.mp hy
    have hi := List.mem_range.mp hi
    rw [opN ht hr hr1 (by omega) (by omega)]
    (repeat' split) <;> omega
def evsP (t r : Int) (i : Nat) : Bool := decide ((2 * (1 + (i : Nat)) - r) % t = 0)
/-- the widths w of 1 .. t with 2 w = r modulo t -/
def evs (t r : Int) : Int := (((List.range t.toNat).filter (evsP t r)).length : Int)
theorem cnt_shift (P Q : Nat → Bool) : ∀ n : Nat, (∀ i, i < n → P (i + 1) = Q i) → P 0 = Q n → ((List.range (n + 1)).filter P).length = ((List.range (n + 1)).filter Q).length := fun n h h0 => by
  have e : (List.range n).filter (P ∘ Nat.succ) = (List.range n).filter Q := List.filter_congr fun i hi => h i (List.mem_range.mp hi)
  have eR : ((List.range (n + 1)).filter Q).length = ((List.range n).filter Q).length + if P 0 = true then 1 else 0 := by
    rw [List.range_succ, List.filter_append, List.length_append, List.filter_cons, h0]
    split <;> simp
  rw [eR, List.range_succ_eq_map, List.filter_cons, List.filter_map, e]
  split <;> simp
theorem mod_two {x t : Int} (ht : 0 < t) (h1 : -t < x) (h2 : x < 2 * t) : x % t = 0 ↔ x = 0 ∨ x = t := by
  rcases Int.lt_or_le x 0 with a | a
  · rw [mod_up (by omega) a ht]; omega
  · rcases Int.lt_or_le x t with b | b
    · rw [mod_small a b]; omega
    · rw [mod_down b (by omega)]; omega
theorem op_evens {t r : Int} (ht : 0 < t) (hr : 0 ≤ r) (hr1 : r < t) : ((evn t 0 0 (7 * t + r)).length : Int) = evs t r := by
  unfold evn fil evs
  rw [List.length_map, Int.add_zero]
  obtain ⟨n, hn⟩ : ∃ n : Nat, t.toNat = n + 1 := ⟨t.toNat - 1, by omega⟩
  rw [hn]
  refine congrArg Nat.cast (cnt_shift _ _ n (fun i hi => ?_) ?_)
  · show decide _ = decide _
    rw [opR ht (by omega) (by omega), opL ht hr hr1 (by omega) (by omega), decide_eq_decide, mod_two ht (by omega) (by omega)]
    (repeat' split) <;> omega
  · show decide _ = decide _
    rw [opR ht (by omega) (by omega), opL ht hr hr1 (by omega) (by omega), decide_eq_decide, show (2 * (1 + ((n : Nat) : Int)) - r) = (0 - r) + t * 2 by omega, mod_add_mul]
    by_cases z : r = 0
    · subst z; simp
    · rw [mod_up (by omega) (by omega) ht]
      (repeat' split) <;> omega
/-! a room of whole tiles -/
section
variable {t j n : Int}
theorem at_mod (hs : 0 < t + j) : (5 - 5 % (t + j)) % (t + j) = 0 := by
  rw [mod_sub_mod, Int.sub_self, Int.zero_emod]
theorem wh_end (hs : 0 < t + j) : (5 + (n * (t + j) - j) - 5 % (t + j)) % (t + j) = (0 - j) % (t + j) := by
  rw [mod_sub_mod, show 5 + (n * (t + j) - j) - 5 = (0 - j) + (t + j) * n by rw [Int.mul_comm]; omega, mod_add_mul]
theorem wh_r (ht : 0 < t) (hj : 0 ≤ j) : width t j (5 % (t + j)) 5 true = t := by
  rw [width_r ht hj, at_mod (by omega)]; omega
theorem wh_l (ht : 0 < t) (hj : 0 ≤ j) : width t j (5 % (t + j)) (5 + (n * (t + j) - j)) false = t := by
  rw [width_l ht hj]
  unfold rst
  rw [wh_end (by omega)]
  by_cases z : j = 0
  · rw [z, Int.sub_zero, Int.zero_emod]; simp
  · rw [mod_up (by omega) (by omega) (by omega)]
    (repeat' split) <;> omega
abbrev whB (t j n : Int) : List D := [bD 5 true, bD (5 + (n * (t + j) - j)) false]
theorem wh_nar (ht : 0 < t) (hj : 0 ≤ j) : nar t j (5 % (t + j)) (whB t j n) = t := by
  show min (wz t j _ (bD 5 true)) (min (wz t j _ (bD (5 + (n * (t + j) - j)) false)) t) = _
  rw [wz_bD, wz_bD, wh_r ht hj, wh_l ht hj]
  (repeat' split) <;> omega
theorem wh_good (ht : 0 < t) (hj : 0 ≤ j) : 5 % (t + j) ∈ good t j (whB t j n) t := by
  have h0 := mod_lo 5 (s := t + j) (by omega)
  have h1 := mod_hi 5 (s := t + j) (by omega)
  unfold good
  refine List.mem_filter.mpr ⟨List.mem_map.mpr ⟨(5 % (t + j)).toNat, List.mem_range.mpr (by omega), Int.toNat_of_nonneg h0⟩, decide_eq_true ?_⟩
  rw [wh_nar ht hj]
  exact Int.le_refl _
theorem wh_widest (ht : 0 < t) (hj : 0 ≤ j) (hB : IsBorders (whB t j n)) : widest t j (whB t j n) = t := by
  have h0 := mod_lo 5 (s := t + j) (by omega)
  have h1 := mod_hi 5 (s := t + j) (by omega)
  symm
  refine widest_is ht hj hB.all ?_ fun y hy => ?_
  · exact List.mem_map.mpr ⟨(5 % (t + j)).toNat, List.mem_range.mpr (by omega), by rw [Int.zero_add, Int.toNat_of_nonneg h0]; exact wh_nar ht hj⟩
  · obtain ⟨i, _, rfl⟩ := List.mem_map.mp hy
    exact nar_le _ _ _ _
theorem wh_cut (ht : 0 < t) (hj : 0 ≤ j) : cutO t j (5 % (t + j)) (5, 5 + (n * (t + j) - j)) = (0, n, 0) := by
  unfold cutO whl
  simp only
  rw [wh_r ht hj, wh_l ht hj, Int.emod_self]
  have e : (5 % (t + j) - 5) % (t + j) = 0 := by
    rw [Int.emod_sub_emod, Int.sub_self, Int.zero_emod]
  rw [e, show 5 + (n * (t + j) - j) - (5 + 0) + j = n * (t + j) by omega, Int.mul_ediv_cancel _ (by omega)]
end
theorem need_whole {t saw n : Int} : ∀ m : Nat, need t saw (List.replicate m ((0, n, 0) : Cut)) = m * n := fun m => by
  have e1 : stW (List.replicate m ((0, n, 0) : Cut)) = [] := by unfold stW; rw [List.map_replicate]; simp
  have e2 : enW (List.replicate m ((0, n, 0) : Cut)) = [] := by unfold enW; rw [List.map_replicate]; simp
  have e3 : ∀ k : Nat, (List.replicate k n).sum = k * n := by
    intro k
    induction k with
    | zero => simp
    | succ k ih => rw [List.replicate_succ, List.sum_cons, ih, Int.natCast_succ, Int.add_mul]; omega
  unfold need
  rw [e1, e2, List.map_replicate, e3]
  show (m : Int) * n + 0 + 0 - 0 = _
  omega
/-- the tiles' widths in a room of whole tiles, with any offset -/
theorem wh_area {t j o n s : Int} (ht : 0 < t) (hj : 0 ≤ j) (hjt : j < t) (hn : 3 ≤ n) (ho0 : 0 ≤ o) (ho1 : o < t + j) : n * t - j ≤ lenC t (cutO t j o (s, s + (n * (t + j) - j))) := by
  have hs : 0 < t + j := by omega
  -- the start
  have u0 := mod_lo (s - o) hs
  have u1 := mod_hi (s - o) hs
  have hr : (o - s) % (t + j) = if (s - o) % (t + j) = 0 then 0 else t + j - (s - o) % (t + j) := by
    have e : o - s = (0 - (s - o) % (t + j)) + (t + j) * (0 - (s - o) / (t + j)) := by
      have := mod_q (s - o) (t + j)
      rw [Int.mul_sub, Int.mul_zero]
      omega
    rw [e, mod_add_mul]
    by_cases z : (s - o) % (t + j) = 0
    · rw [if_pos z, z]; simp
    · rw [if_neg z, mod_up (by omega) (by omega) hs]; omega
  have hf : width t j o s true % t = if (s - o) % (t + j) = 0 then 0 else if (s - o) % (t + j) < t then t - (s - o) % (t + j) else 0 := by
    rw [width_r ht hj]
    by_cases z : (s - o) % (t + j) = 0
    · rw [if_pos z, z, show max 0 (t - 0) = t by omega, Int.emod_self]
    · rw [if_neg z]
      split
      · rw [show max 0 (t - (s - o) % (t + j)) = t - (s - o) % (t + j) by omega, mod_small (by omega) (by omega)]
      · rw [show max 0 (t - (s - o) % (t + j)) = 0 by omega, Int.zero_emod]
  generalize hu : (s - o) % (t + j) = u at *
  generalize hrr : (o - s) % (t + j) = r at *
  generalize hff : width t j o s true % t = f at *
  -- the whole ones
  have hq := mod_q (s + (n * (t + j) - j) - (s + r) + j) (t + j)
  have v0 := mod_lo (s + (n * (t + j) - j) - (s + r) + j) hs
  have v1 := mod_hi (s + (n * (t + j) - j) - (s + r) + j) hs
  have hw : whl t j o s (s + (n * (t + j) - j)) = (s + (n * (t + j) - j) - (s + r) + j) / (t + j) := by unfold whl; rw [hrr]
  generalize hv : (s + (n * (t + j) - j) - (s + r) + j) % (t + j) = v at *
  generalize hm : (s + (n * (t + j) - j) - (s + r) + j) / (t + j) = m at *
  -- n (t + j) = r + v + m (t + j)
  have key : n * (t + j) = r + v + (t + j) * m := by omega
  have hr1 : 0 ≤ r ∧ r < t + j := by rw [hr]; split <;> omega
  have hmn : m = n ∧ r + v = 0 ∨ m = n - 1 ∧ r + v = t + j := by
    rcases Int.lt_trichotomy m n with a | a | a
    · rcases Int.lt_or_le m (n - 1) with b | b
      · exfalso
        have h3 : (t + j) * m ≤ (t + j) * (n - 2) := Int.mul_le_mul_of_nonneg_left (by omega) (by omega)
        rw [Int.mul_sub, Int.mul_comm (t + j) n] at h3
        omega
      · right
        have e : m = n - 1 := by omega
        refine ⟨e, ?_⟩
        rw [e, Int.mul_sub, Int.mul_comm (t + j) n] at key
        omega
    · left
      refine ⟨a, ?_⟩
      rw [a, Int.mul_comm (t + j) n] at key
      omega
    · exfalso
      have h3 : (t + j) * (n + 1) ≤ (t + j) * m := Int.mul_le_mul_of_nonneg_left (by omega) (by omega)
      rw [Int.mul_add, Int.mul_comm (t + j) n] at h3
      omega
  -- the end
  have he : (s + (n * (t + j) - j) - o) % (t + j) = (v - j) % (t + j) := by
    have e0 : s - o = (0 - r) + (t + j) * ((s - o + r) / (t + j)) := by
      have h5 := mod_q (s - o + r) (t + j)
      have h6 : (s - o + r) % (t + j) = 0 := by
        rw [← hrr, Int.add_emod, Int.emod_emod, ← Int.add_emod, show s - o + (o - s) = 0 by omega, Int.zero_emod]
      rw [h6] at h5
      omega
    rw [show s + (n * (t + j) - j) - o = (s - o) + n * (t + j) - j by omega, key]
    rw [show (s - o) + (r + v + (t + j) * m) - j = (v - j) + (t + j) * (m + (s - o + r) / (t + j)) by rw [Int.mul_add]; omega, mod_add_mul]
  have hl : width t j o (s + (n * (t + j) - j)) false % t = if v < j then 0 else v - j := by
    rw [width_l ht hj]
    have hx : rst (s + (n * (t + j) - j)) o (t + j) = if v < j then v - j + (t + j) else if v = j then t + j else v - j := by
      unfold rst
      rw [he]
      by_cases z : v < j
      · rw [if_pos z, mod_up (by omega) (by omega) hs, if_neg (by omega)]
      · rw [if_neg z, mod_small (by omega) (by omega)]
        by_cases y : v = j
        · rw [if_pos (by omega), if_pos y]
        · rw [if_neg (by omega), if_neg y]
    rw [hx]
    by_cases z : v < j
    · rw [if_pos z, if_pos z]
      split
      · rw [show v - j + (t + j) = t by omega, Int.emod_self]
      · rw [Int.zero_emod]
    · rw [if_neg z, if_neg z]
      by_cases y : v = j
      · rw [if_pos y]
        split
        · rw [show t + j = t by omega, Int.emod_self]; omega
        · rw [Int.zero_emod]; omega
      · rw [if_neg y, if_pos (by omega), mod_small (by omega) (by omega)]
  show n * t - j ≤ width t j o s true % t + whl t j o s (s + (n * (t + j) - j)) * t + width t j o (s + (n * (t + j) - j)) false % t
  rw [hl, hw, hff]
  rcases hmn with ⟨e, z⟩ | ⟨e, z⟩
  · rw [e]
    have : 0 ≤ f := by rw [hf]; (repeat' split) <;> omega
    split <;> omega
  · rw [e, Int.sub_mul, Int.one_mul]
    rw [hf]
    rw [hr] at z
    (repeat' split) <;> (repeat' split at z) <;> omega
theorem wh_few {t j n m w s : Int} (ht : 0 < t) (hj : 0 ≤ j) (hjt : j < t) (hn : 3 ≤ n) (h : Few t j 0 [(s, s + (n * (t + j) - j))] m w) : n ≤ m := by
  have a := wh_area (s := s) ht hj hjt hn h.lo h.hi
  have b := nd_len (t := t) (j := j) (o := w) (saw := 0) (rs := [(s, s + (n * (t + j) - j))]) ht (Int.le_refl _)
  have e := h.eq
  rw [← e] at b
  simp only [List.map_cons, List.map_nil, List.sum_cons, List.sum_nil] at b
  rcases Int.lt_or_le m n with c | c
  · exfalso
    have d : m * t ≤ (n - 1) * t := Int.mul_le_mul_of_nonneg_right (by omega) (by omega)
    rw [Int.sub_mul, Int.one_mul] at d
    omega
  · exact c
/-! a half tile -/
theorem half_cuts {h : Int} (h1 : 0 < h) : cuts (2 * h) 0 0 [(0, 7 * h), (h, 8 * h)] = [(0, 3, h), (h, 3, 0)] := by
  have a0 : (0 : Int) % (2 * h) = 0 := Int.zero_emod _
  have a1 : h % (2 * h) = h := mod_small (by omega) (by omega)
  have a2 : (7 * h) % (2 * h) = h := by rw [show 7 * h = h + (2 * h) * 3 by omega, mod_add_mul, a1]
  have a3 : (8 * h) % (2 * h) = 0 := by rw [show 8 * h = 0 + (2 * h) * 4 by omega, mod_add_mul, a0]
  have a4 : (0 - h) % (2 * h) = h := by rw [mod_up (by omega) (by omega) (by omega)]; omega
  have d1 : 7 * h / (2 * h) = 3 := by
    have := mod_q (7 * h) (2 * h)
    rw [a2] at this
    have e : (2 * h) * (7 * h / (2 * h)) = (2 * h) * 3 := by omega
    exact Int.eq_of_mul_eq_mul_left (by omega) e
  have d2 : 6 * h / (2 * h) = 3 := by
    rw [show 6 * h = (2 * h) * 3 by omega, Int.mul_ediv_cancel_left _ (by omega)]
  have r1 : width (2 * h) 0 0 0 true = 2 * h := by rw [width_r (by omega) (by omega), Int.add_zero, Int.sub_zero, a0]; omega
  have r2 : width (2 * h) 0 0 h true = h := by rw [width_r (by omega) (by omega), Int.add_zero, Int.sub_zero, a1]; omega
  have l1 : width (2 * h) 0 0 (7 * h) false = h := by
    rw [width_l (by omega) (by omega)]; unfold rst
    rw [Int.add_zero, Int.sub_zero, a2]
    (repeat' split) <;> omega
  have l2 : width (2 * h) 0 0 (8 * h) false = 2 * h := by
    rw [width_l (by omega) (by omega)]; unfold rst
    rw [Int.add_zero, Int.sub_zero, a3, if_pos rfl, if_pos (Int.le_refl _)]
  have w1 : whl (2 * h) 0 0 0 (7 * h) = 3 := by
    unfold whl
    rw [Int.add_zero (2 * h), Int.sub_zero, a0, show 7 * h - (0 + 0) + 0 = 7 * h by omega, d1]
  have w2 : whl (2 * h) 0 0 h (8 * h) = 3 := by
    unfold whl
    rw [Int.add_zero (2 * h), a4, show 8 * h - (h + h) + 0 = 6 * h by omega, d2]
  show [cutO (2 * h) 0 0 (0, 7 * h), cutO (2 * h) 0 0 (h, 8 * h)] = _
  unfold cutO
  simp only
  rw [r1, r2, l1, l2, w1, w2, Int.emod_self, a1]
theorem half_need {h saw : Int} (h1 : 0 < h) (hs : 0 ≤ saw) : nd (2 * h) 0 saw [(0, 7 * h), (h, 8 * h)] 0 = if saw = 0 then 7 else 8 := by
  show need _ _ (cuts (2 * h) 0 0 [(0, 7 * h), (h, 8 * h)]) = _
  rw [half_cuts h1]
  have e1 : stW [((0 : Int), (3 : Int), h), (h, 3, 0)] = [h] := by simp [stW, h1]
  have e2 : enW [((0 : Int), (3 : Int), h), (h, 3, 0)] = [h] := by simp [enW, h1]
  unfold need
  rw [e1, e2]
  show (3 + (3 + 0) : Int) + 1 + 1 - (if h + h ≤ 2 * h - saw then max 0 (1 + 0) else 0) = _
  split <;> split <;> omega
/-! contracts -/
def evsD (t r : Int) : D → Bool := fun d => match d with | .int w => decide ((2 * w - r) % t = 0) | _ => false
theorem evs_D (t r : Int) : ((((rngD 1 (t + 1 - 1).toNat).filter (evsD t r)).map fun d => d).length : Int) = evs t r := by
  unfold evs rngD
  rw [List.map_id', List.filter_map, List.length_map, show t + 1 - 1 = t by omega]
  rfl
def s_law_evens : Ct := fun ss k _ => ∃ t r, ss = [.d (.int t), .d (.int r)] ∧ (0 < t ∧ t ≤ 500) ∧ k (.int (evs t r))
def s_law_opposite_right : Ct := fun ss k _ => ∃ t r, ss = [.d (.int t), .d (.int r)] ∧ (2 ≤ t ∧ t ≤ 500) ∧ (0 ≤ r ∧ r < t) ∧ k (.bool true)
def s_law_whole_right : Ct := fun ss k _ => ∃ t j n, ss = [.d (.int t), .d (.int j), .d (.int n)] ∧ (2 ≤ t ∧ t ≤ 81) ∧ (0 ≤ j ∧ j < t ∧ j ≤ 20) ∧ (1 ≤ n ∧ n ≤ 30) ∧ k (.bool true)
theorem wh_b {t j n : Int} (h1 : 0 < t) (h2 : t ≤ 81) (h3 : 0 ≤ j) (h4 : j ≤ 20) (h5 : 1 ≤ n) (h6 : n ≤ 30) : 0 ≤ n * (t + j) ∧ n * (t + j) ≤ 3030 := by
  have a : 0 ≤ n * (t + j) := Int.mul_nonneg (by omega) (by omega)
  have b : n * (t + j) ≤ 30 * (t + j) := Int.mul_le_mul_of_nonneg_right h6 (by omega)
  omega
theorem wh_borders {t j n : Int} (h1 : 0 < t) (h2 : t ≤ 81) (h3 : 0 ≤ j) (h4 : j ≤ 20) (h5 : 1 ≤ n) (h6 : n ≤ 30) : IsBorders (whB t j n) := by
  obtain ⟨a, b⟩ := wh_b h1 h2 h3 h4 h5 h6
  exact two_b (p := 5) (q := 5 + (n * (t + j) - j)) (a := true) (c := false) ⟨by decide, by decide⟩ ⟨by omega, by omega⟩
theorem wh_row {t j n : Int} (h1 : 0 < t) (h2 : t ≤ 81) (h3 : 0 ≤ j) (h4 : j ≤ 20) (h5 : 3 ≤ n) (h6 : n ≤ 30) : IsRow t j 5 (5 + (n * (t + j) - j)) := by
  obtain ⟨a, b⟩ := wh_b h1 h2 h3 h4 (by omega) h6
  have c : 3 * (t + j) ≤ n * (t + j) := Int.mul_le_mul_of_nonneg_right h5 (by omega)
  exact ⟨by omega, by omega, by omega, by omega, by omega⟩
theorem wh_rows {t j n : Int} {m : Nat} (h1 : 0 < t) (h2 : t ≤ 81) (h3 : 0 ≤ j) (h4 : j ≤ 20) (h5 : 3 ≤ n) (h6 : n ≤ 30) (hm : 1 ≤ m) (hm2 : m ≤ 20) : Rows t j (List.replicate m (5, 5 + (n * (t + j) - j))) :=
  ⟨by rw [List.length_replicate]; exact hm, by rw [List.length_replicate]; exact hm2, fun p hp => by rw [(List.mem_replicate.mp hp).2]; exact wh_row h1 h2 h3 h4 h5 h6⟩
theorem wh_need {t j n saw : Int} (m : Nat) (ht : 0 < t) (hj : 0 ≤ j) : nd t j saw (List.replicate m (5, 5 + (n * (t + j) - j))) (5 % (t + j)) = m * n := by
  show need t saw ((List.replicate m _).map _) = _
  rw [List.map_replicate, wh_cut ht hj, need_whole]
theorem wh_fewest {t j n m w : Int} (ht : 0 < t) (hj : 0 ≤ j) (hjt : j < t) (hn : 3 ≤ n) (h : Few t j 0 [(5, 5 + (n * (t + j) - j))] m w) : m = n := by
  have a := wh_few ht hj hjt hn h
  have b := h.le (5 % (t + j)) (mod_lo _ (by omega)) (mod_hi _ (by omega))
  rw [show nd t j 0 [(5, 5 + (n * (t + j) - j))] (5 % (t + j)) = n from (wh_need 1 ht hj).trans (by omega)] at b
  unfold leP at b
  simp only at b
  omega
end Tp

set_option linter.all false
set_option maxRecDepth 100000
set_option maxHeartbeats 4000000
/-! TpT: instances: attributes as data, what a method's walk leaves. -/
namespace Tl
open PySem PySem.Spec PyProof.Rows L2
theorem mask_nil (H : Hp) : mask [] H = H := funext fun a => by
  show (if a ∈ ([] : List Addr) then none else H a) = H a
  rw [if_neg (by simp)]
/-- any state, seen afresh -/
theorem en_now {K : PySem.W.Frag} {δ : List Slot} {σ : L2.St} {H : Hp} (hl : σ.length = δ.length) (hs : ∀ (i : Nat) (s : Slot), δ[i]? = some s → s.ow = none ∧ SOk K [] [] H s (σ[i]?.join)) : En K (F00 H) δ σ H := by
  have ho : owns δ = [] := by
    cases q : owns δ with
    | nil => rfl
    | cons a r =>
      have m : a ∈ owns δ := by rw [q]; exact List.mem_cons_self
      obtain ⟨i, xs, h⟩ := of_owns m
      exact absurd (hs i _ h).1 (fun z => by cases z)
  have hm : msk (F00 H) δ = [] := by unfold msk; rw [ho]; rfl
  refine ⟨hl, fun i s h => by rw [hm]; exact (hs i s h).2, by rw [ho]; exact List.nodup_nil, (fun a m => by rw [ho] at m; exact nomatch m), (fun a m => by rw [ho] at m; exact nomatch m), (fun a m => nomatch m), (fun a m => nomatch m), .refl _, (by rw [ho]; exact glo00)⟩
section
variable {X : Cx} {ex : Value → Prop} {δ : List Slot} {e : Expr} {pos p : Pos} {k : D → Prop} {x : Str}
/-- self.f, data -/
theorem pe_atO (i : Nat) {a C : Addr} {fs : List (Str × D)} {f : Str} {d : D} (hi : δ[i]? = some (.obj a C fs)) (c : Cls X.K C) (n : NoAttr X.K C f) (hf : fs.lookup f = some d) (h : k d) (hN : X.N[i]? = some x := by rfl)
    (hv : Vis X.env.scope x := by first | exact Or.inl rfl | exact Or.inr (Or.inl rfl) | exact Or.inr (Or.inr rfl)) (hd : (x == ("__debug__" : Str)) = false := by decide) (hcd : (x == ("__classdict__" : Str)) = false := by decide)
    (hb : attributeBase (.Name x p) f X.env (eval (.Name x p) X.env) = eval (.Name x p) X.env := by rfl) : Pe X ex δ (.Attribute (.Name x p) f pos) k := fun F σ H en tk => by
  obtain ⟨e1, dx, fv, e2, q⟩ := en.sl i _ hi
  obtain ⟨u, h1, h2⟩ := q f d hf
  have e3 : σ[i]? = some (some (.ref a)) := by
    cases w : σ[i]? with
    | none => rw [w] at e1; cases e1
    | some v => rw [w] at e1; rw [show v = some (V.ref a) from e1]
  exact we_of (pe_fld (pe_var hN hv hd hcd) hb) ⟨.ref a, e3, a, C, dx, fv, u, rfl, mask_le _ _ e2, c, n, h1, en, .refl _, d, h2, h⟩
/-- C.f, a constant of the class -/
theorem pe_cv {C : Addr} {mc : Value} {f : Str} {n : Int} {t : Tok} (hm : X.mg x = some (.ref C)) (r : ClX.CRead X.K C mc) (c : ClX.CVal X.K C mc f (.int n) (.int n t)) (h : k (.int n)) (hg : Gl X x := by rfl) (hd : (x == ("__debug__" : Str)) = false := by decide)
    (hb : attributeBase (.Name x p) f X.env (eval (.Name x p) X.env) = eval (.Name x p) X.env := by rfl) : Pe X ex δ (.Attribute (.Name x p) f pos) k := fun F σ H en tk =>
  we_of (ClX.pe_cval (pe_glob (v := .ref C) hg hm rfl hd) hb) ⟨C, mc, .int n, _, rfl, r, c, en, .refl _, _, .int n, h⟩
/-- a suite with an end of one's own -/
def PssE (X : Cx) (ex : Value → Prop) (δ : List Slot) (sts : List Stmt) (Pf : Fm → Prop) (Φ : Ends) : Prop := ∀ (F : Fm) (σ : L2.St) (H : Hp), Pf F → En X.K F δ σ H → L2N.Takes X (Wx F ex) → WSs X sts Φ σ H
theorem pssE_cons {st : Stmt} {rest : List Stmt} {Pf : Fm → Prop} {Φ : Ends} (h : Ps X δ st { nx := fun δ' => PssE X ex δ' rest Pf Φ, rt := fun _ => False, ex := ex }) : PssE X ex δ (st :: rest) Pf Φ := fun F σ H hp en tk =>
  wss_of (L2.pss_cons ps_self pss_self) (ws_mono (h F σ H en tk) ⟨fun σ' H' ⟨δ', e', q⟩ => q F σ' H' hp e' tk, fun v H' ⟨_, _, _, _, z⟩ => z.elim, fun σ' H' ⟨_, _, z⟩ => z.elim, fun σ' H' ⟨_, _, z⟩ => z.elim⟩)
end
/-! data without lists -/
mutual
def noL : D → Bool
  | .list _ => false
  | .tuple xs => noLs xs
  | .dict _ => false
  | _ => true
def noLs : List D → Bool
  | [] => true
  | x :: xs => noL x && noLs xs
end
mutual
theorem Td.off {H H' : Hp} {l : Addr} (hl : ∀ xs, H l ≠ some (.tup xs)) (k : ∀ a o, a ≠ l → H a = some o → H' a = some o) : ∀ {v : V} {d : D}, Td H v d → noL d = true → Td H' v d
  | _, _, .int n, _ => .int n
  | _, _, .bl b, _ => .bl b
  | _, _, .str z, _ => .str z
  | _, _, .non, _ => .non
  | _, _, .tup e z t, h => .tup (k _ _ (fun w => hl _ (by rw [w] at e; exact e)) e) z (Tds.off hl k t h)
  | _, _, .lst _ _ _, h => nomatch h
theorem Tds.off {H H' : Hp} {l : Addr} (hl : ∀ xs, H l ≠ some (.tup xs)) (k : ∀ a o, a ≠ l → H a = some o → H' a = some o) : ∀ {us : List V} {ds : List D}, Tds H us ds → noLs ds = true → Tds H' us ds
  | _, _, .nil, _ => .nil
  | _, _, .cons t r, h => by
    have h := (Bool.and_eq_true _ _).mp h
    exact .cons (Td.off hl k t h.1) (Tds.off hl k r h.2)
end
/-! ### a floor -/
def flF (kt ls : Addr) (least : Int) : List (Str × V) := putF "steps" (.ref ls) (putF "least" (.int least) (putF "kind" (.ref kt) []))
theorem ne_ks : ¬ (("kind" : Str) = "steps") := by decide +kernel
theorem ne_kl : ¬ (("kind" : Str) = "least") := by decide +kernel
theorem ne_ls : ¬ (("least" : Str) = "steps") := by decide +kernel
theorem fl_kind (kt ls : Addr) (n : Int) : (flF kt ls n).lookup ("kind" : Str) = some (.ref kt) := by
  unfold flF
  rw [lookup_putF, if_neg ne_ks, lookup_putF, if_neg ne_kl, lookup_putF, if_pos rfl]
theorem fl_least (kt ls : Addr) (n : Int) : (flF kt ls n).lookup ("least" : Str) = some (.int n) := by
  unfold flF
  rw [lookup_putF, if_neg ne_ls, lookup_putF, if_pos rfl]
theorem fl_steps (kt ls : Addr) (n : Int) : (flF kt ls n).lookup ("steps" : Str) = some (.ref ls) := by
  unfold flF
  rw [lookup_putF, if_pos rfl]
theorem fl_no (kt ls : Addr) (n : Int) {m : Str} (h1 : ¬ m = "kind") (h2 : ¬ m = "least") (h3 : ¬ m = "steps") : (flF kt ls n).lookup m = none := by
  unfold flF
  rw [lookup_putF, if_neg h3, lookup_putF, if_neg h2, lookup_putF, if_neg h1]
  rfl
/-- a floor at x: its steps at ls, of each the borders and the good offsets -/
structure FloorAt (C : Addr) (H : Hp) (x kt ls : Addr) (t j least : Int) (steps : List D) : Prop where
  ob : ∃ dx, H x = some (.ins C dx (flF kt ls least))
  kd : H kt = some (.tup [.int t, .int j])
  st : ∃ vs, H ls = some (.lst vs) ∧ vs.length ≤ 100 ∧ Tds H vs steps
theorem FloorAt.slot {K : PySem.W.Frag} {C : Addr} {H : Hp} {x kt ls : Addr} {t j least : Int} {steps : List D} (f : FloorAt C H x kt ls t j least steps) :
    SOk K [] [] H (.obj x C [("kind", .tuple [.int t, .int j]), ("least", .int least), ("steps", .list steps)]) (some (.ref x)) := by
  obtain ⟨dx, h1⟩ := f.ob
  obtain ⟨vs, h2, h3, h4⟩ := f.st
  refine ⟨rfl, dx, _, by rw [mask_nil]; exact h1, fun g d h => ?_⟩
  rw [mask_nil]
  by_cases e1 : g = "kind"
  · subst e1
    have : d = .tuple [.int t, .int j] := by
      have := h.symm.trans (show List.lookup ("kind" : Str) [(("kind" : Str), PyData.tuple [.int t, .int j]), ("least", .int least), ("steps", .list steps)] = some (.tuple [.int t, .int j]) from by simp [List.lookup])
      exact Option.some.inj this
    subst this
    exact ⟨_, fl_kind _ _ _, .tup f.kd (by rw [sizeLine_eq]; simp) (.cons (.int t) (.cons (.int j) .nil))⟩
  by_cases e2 : g = "least"
  · subst e2
    have : d = .int least := by
      have := h.symm.trans (show List.lookup ("least" : Str) [(("kind" : Str), PyData.tuple [.int t, .int j]), ("least", .int least), ("steps", .list steps)] = some (.int least) from by
        rw [List.lookup_cons, show (("least" : Str) == "kind") = false by decide +kernel, List.lookup_cons, show (("least" : Str) == "least") = true by decide +kernel])
      exact Option.some.inj this
    subst this
    exact ⟨_, fl_least _ _ _, .int least⟩
  by_cases e3 : g = "steps"
  · subst e3
    have : d = .list steps := by
      have := h.symm.trans (show List.lookup ("steps" : Str) [(("kind" : Str), PyData.tuple [.int t, .int j]), ("least", .int least), ("steps", .list steps)] = some (.list steps) from by
        rw [List.lookup_cons, show (("steps" : Str) == "kind") = false by decide +kernel, List.lookup_cons, show (("steps" : Str) == "least") = false by decide +kernel, List.lookup_cons, show (("steps" : Str) == "steps") = true by decide +kernel])
      exact Option.some.inj this
    subst this
    exact ⟨_, fl_steps _ _ _, .lst h2 (by rw [sizeLine_eq]; omega) h4⟩
  · exfalso
    rw [List.lookup_cons, show (g == ("kind" : Str)) = false from beq_eq_false_iff_ne.mpr e1, List.lookup_cons, show (g == ("least" : Str)) = false from beq_eq_false_iff_ne.mpr e2, List.lookup_cons, show (g == ("steps" : Str)) = false from beq_eq_false_iff_ne.mpr e3] at h
    cases h
end Tl

set_option linter.all false
set_option maxRecDepth 100000
set_option maxHeartbeats 4000000
namespace Tp
open PySem PySem.Spec PyProof.Rows L2 Tl
def topS (i : Nat) : Stmt := PySem.Challenge.pw_tilecuts_k22_whole_worked_examples.main.body.getD i (.Pass ⟨0, 0, 0, 0⟩)
section
variable {P : Program} {w : World} {K : PySem.W.Frag} {mg : Str → Option Value} {base : Heap}
abbrev st_is_integer : Stmt := topS 14
theorem sc_is_integer : FnScope ["value", "low", "high"] ["value", "low", "high"] (defScope st_is_integer) := ⟨rfl, rfl, rfl, by decide +kernel, rfl, by decide +kernel, by decide +kernel⟩
theorem ok_is_integer (F : Df K mg "is_integer" st_is_integer ["value", "low", "high"]) (m_bool : mg "bool" = none) (m_int : mg "int" = none) (m_isinstance : mg "isinstance" = none) : Ok P w K mg base 1 "is_integer" ["value", "low", "high"] s_is_integer := by
  refine ok_of F sc_is_integer (by decide) (by rintro _ _ _ ⟨v, lo, hi, rfl, _⟩; rfl) ?_
  rintro f cdv A outer s H E _ k ex hr ⟨v, lo, hi, rfl, hk⟩
  show Pss _ [.d v, .d (.int lo), .d (.int hi)] _ _
  refine Tl.pss_one ?_
  refine Tl.ps_ret ?_
  refine cutE (.bool (isIntD v lo hi)) ?_ ?_
  · skip
    refine Tl.pe_and ?_
    refine Tl.pe_isi kit_int (by decide +kernel) m_isinstance m_int ?_
    refine Tl.pe_nm 0 rfl ?_
    refine ⟨_, rfl, ?_⟩
    refine iteB (fun h1 => ?_) (fun h1 => ?_)
    · skip
      try simp only [eqv_int, eqv_side, eqv_sideL, Bool.not_eq_true, Bool.not_eq_false, decide_eq_true_eq, decide_eq_false_iff_not, Bool.not_eq_true', Bool.not_eq_false'] at h1
      refine Tl.pe_and ?_
      refine Tl.pe_not ?_
      refine Tl.pe_isi kit_bool (by decide +kernel) m_isinstance m_bool ?_
      refine Tl.pe_nm 0 rfl ?_
      refine ⟨_, rfl, ?_⟩
      refine ⟨_, rfl, ?_⟩
      refine iteB (fun h2 => ?_) (fun h2 => ?_)
      · skip
        try simp only [eqv_int, eqv_side, eqv_sideL, Bool.not_eq_true, Bool.not_eq_false, decide_eq_true_eq, decide_eq_false_iff_not, Bool.not_eq_true', Bool.not_eq_false'] at h2
        refine Tl.pe_1 ?_
        obtain ⟨i, rfl⟩ : ∃ i, v = .int i := by cases v <;> simp_all
        refine Tl.pe_ch op_le op_le ?_
        refine Tl.pe_nm 1 rfl ?_
        refine Tl.pe_nm 0 rfl ?_
        refine ⟨_, _, rfl, rfl, ?_⟩
        refine iteB (fun h3 => pe_nm 2 rfl ⟨_, rfl, ?_⟩) (fun h3 => ?_) <;> (simp_all [isIntD] <;> omega)
      · skip
        try simp only [eqv_int, eqv_side, eqv_sideL, Bool.not_eq_true, Bool.not_eq_false, decide_eq_true_eq, decide_eq_false_iff_not, Bool.not_eq_true', Bool.not_eq_false'] at h2
        cases v <;> simp_all [isIntD]
    · skip
      try simp only [eqv_int, eqv_side, eqv_sideL, Bool.not_eq_true, Bool.not_eq_false, decide_eq_true_eq, decide_eq_false_iff_not, Bool.not_eq_true', Bool.not_eq_false'] at h1
      cases v <;> simp_all [isIntD]
  exact hk

abbrev st_is_pair : Stmt := topS 15
theorem sc_is_pair : FnScope ["value"] ["value"] (defScope st_is_pair) := ⟨rfl, rfl, rfl, by decide +kernel, rfl, by decide +kernel, by decide +kernel⟩
theorem ok_is_pair (F : Df K mg "is_pair" st_is_pair ["value"]) (m_isinstance : mg "isinstance" = none) (m_len : mg "len" = none) (m_tuple : mg "tuple" = none) : Ok P w K mg base 1 "is_pair" ["value"] s_is_pair := by
  refine ok_of F sc_is_pair (by decide) (by rintro _ _ _ ⟨v, rfl, _⟩; rfl) ?_
  rintro f cdv A outer s H E _ k ex hr ⟨v, rfl, hk⟩
  show Pss _ [.d v] _ _
  refine Tl.pss_one ?_
  refine Tl.ps_ret ?_
  refine cutE (.bool (isPairD v)) ?_ ?_
  · skip
    refine Tl.pe_and ?_
    refine Tl.pe_isi kit_tuple (by decide +kernel) m_isinstance m_tuple ?_
    refine Tl.pe_nm 0 rfl ?_
    refine ⟨_, rfl, ?_⟩
    refine iteB (fun h1 => ?_) (fun h1 => ?_)
    · skip
      try simp only [eqv_int, eqv_side, eqv_sideL, Bool.not_eq_true, Bool.not_eq_false, decide_eq_true_eq, decide_eq_false_iff_not, Bool.not_eq_true', Bool.not_eq_false'] at h1
      obtain ⟨xs, rfl⟩ : ∃ xs, v = .tuple xs := by cases v <;> simp_all
      refine Tl.pe_1 ?_
      refine Tl.pe_eq hr.units ?_
      refine Tl.pe_len m_len ?_
      refine Tl.pe_nm 0 rfl ?_
      refine ⟨_, .inr rfl, ?_⟩
      refine Tl.pe_i ?_
      refine ⟨(by first | rfl | assumption | exact ints_shaped _ | exact shaped_side _ | decide +kernel), (by first | rfl | assumption | exact ints_shaped _ | exact shaped_side _ | decide +kernel), ?_⟩
      first | (cases v <;> simp_all [isPairD]; done) | exact pair_len _
    · skip
      try simp only [eqv_int, eqv_side, eqv_sideL, Bool.not_eq_true, Bool.not_eq_false, decide_eq_true_eq, decide_eq_false_iff_not, Bool.not_eq_true', Bool.not_eq_false'] at h1
      first | (cases v <;> simp_all [isPairD]; done) | exact pair_len _
  exact hk

abbrev st_is_kind : Stmt := topS 16
theorem sc_is_kind : FnScope ["value"] ["value"] (defScope st_is_kind) := ⟨rfl, rfl, rfl, by decide +kernel, rfl, by decide +kernel, by decide +kernel⟩
theorem ok_is_kind (F : Df K mg "is_kind" st_is_kind ["value"]) (c_MAX_JOINT : ∃ t, mg "MAX_JOINT" = some (.int 20 t)) (c_MAX_TILE : ∃ t, mg "MAX_TILE" = some (.int 500 t)) (g_is_pair : Ok P w K mg base 1 "is_pair" ["value"] s_is_pair) (g_is_integer : Ok P w K mg base 1 "is_integer" ["value", "low", "high"] s_is_integer) : Ok P w K mg base 2 "is_kind" ["value"] s_is_kind := by
  refine ok_of F sc_is_kind (by decide) (by rintro _ _ _ ⟨v, rfl, _⟩; rfl) ?_
  rintro f cdv A outer s H E _ k ex hr ⟨v, rfl, hk⟩
  show Pss _ [.d v] _ _
  refine Tl.pss_one ?_
  refine Tl.ps_ret ?_
  refine cutE (.bool (isKindD v)) ?_ ?_
  · skip
    refine Tl.pe_and ?_
    refine Tl.pe_call g_is_pair hr (by decide) ?_
    refine Tl.pa_cons ?_
    refine Tl.pe_nm 0 rfl ?_
    refine Tl.pa_nil ?_
    refine ⟨_, rfl, ?_⟩
    refine ⟨_, rfl, ?_⟩
    refine iteB (fun h1 => ?_) (fun h1 => ?_)
    · skip
      try simp only [eqv_int, eqv_side, eqv_sideL, Bool.not_eq_true, Bool.not_eq_false, decide_eq_true_eq, decide_eq_false_iff_not, Bool.not_eq_true', Bool.not_eq_false'] at h1
      obtain ⟨a, b, rfl⟩ := isPairD_iff.mp ‹isPairD v = true›
      refine Tl.pe_and ?_
      refine Tl.pe_call g_is_integer hr (by decide) ?_
      refine Tl.pa_cons ?_
      refine Tl.pe_at ?_
      refine Tl.pe_nm 0 rfl ?_
      refine ⟨_, _, rfl, rfl, ?_⟩
      refine Tl.pa_cons ?_
      refine Tl.pe_i ?_
      refine Tl.pa_cons ?_
      refine Tl.pe_gi c_MAX_TILE.choose_spec ?_
      refine Tl.pa_nil ?_
      refine ⟨_, _, _, rfl, ?_⟩
      refine ⟨_, rfl, ?_⟩
      refine iteB (fun h2 => ?_) (fun h2 => ?_)
      · skip
        try simp only [eqv_int, eqv_side, eqv_sideL, Bool.not_eq_true, Bool.not_eq_false, decide_eq_true_eq, decide_eq_false_iff_not, Bool.not_eq_true', Bool.not_eq_false'] at h2
        refine Tl.pe_1 ?_
        refine Tl.pe_call g_is_integer hr (by decide) ?_
        refine Tl.pa_cons ?_
        refine Tl.pe_at ?_
        refine Tl.pe_nm 0 rfl ?_
        refine ⟨_, _, rfl, rfl, ?_⟩
        refine Tl.pa_cons ?_
        refine Tl.pe_i ?_
        refine Tl.pa_cons ?_
        refine Tl.pe_gi c_MAX_JOINT.choose_spec ?_
        refine Tl.pa_nil ?_
        refine ⟨_, _, _, rfl, ?_⟩
        first | (simp_all [isKindD]; done) | exact no_pair_kind ‹_›
      · skip
        try simp only [eqv_int, eqv_side, eqv_sideL, Bool.not_eq_true, Bool.not_eq_false, decide_eq_true_eq, decide_eq_false_iff_not, Bool.not_eq_true', Bool.not_eq_false'] at h2
        first | (simp_all [isKindD]; done) | exact no_pair_kind ‹_›
    · skip
      try simp only [eqv_int, eqv_side, eqv_sideL, Bool.not_eq_true, Bool.not_eq_false, decide_eq_true_eq, decide_eq_false_iff_not, Bool.not_eq_true', Bool.not_eq_false'] at h1
      first | (simp_all [isKindD]; done) | exact no_pair_kind ‹_›
  exact hk

abbrev st_is_side : Stmt := topS 17
theorem sc_is_side : FnScope ["value"] ["value"] (defScope st_is_side) := ⟨rfl, rfl, rfl, by decide +kernel, rfl, by decide +kernel, by decide +kernel⟩
theorem ok_is_side (F : Df K mg "is_side" st_is_side ["value"]) (m_isinstance : mg "isinstance" = none) (m_str : mg "str" = none) : Ok P w K mg base 1 "is_side" ["value"] s_is_side := by
  refine ok_of F sc_is_side (by decide) (by rintro _ _ _ ⟨v, rfl, _⟩; rfl) ?_
  rintro f cdv A outer s H E _ k ex hr ⟨v, rfl, hk⟩
  show Pss _ [.d v] _ _
  refine Tl.pss_one ?_
  refine Tl.ps_ret ?_
  refine cutE (.bool (isSideD v)) ?_ ?_
  · skip
    refine Tl.pe_and ?_
    refine Tl.pe_isi kit_str (by decide +kernel) m_isinstance m_str ?_
    refine Tl.pe_nm 0 rfl ?_
    refine ⟨_, rfl, ?_⟩
    refine iteB (fun h1 => ?_) (fun h1 => ?_)
    · skip
      try simp only [eqv_int, eqv_side, eqv_sideL, Bool.not_eq_true, Bool.not_eq_false, decide_eq_true_eq, decide_eq_false_iff_not, Bool.not_eq_true', Bool.not_eq_false'] at h1
      obtain ⟨z, rfl⟩ : ∃ z, v = .str z := by cases v <;> simp_all
      refine Tl.pe_1 ?_
      refine Tl.pe_in (by with_unfolding_all rfl) ?_
      refine Tl.pe_nm 0 rfl ?_
      refine Tl.pe_tp ?_
      refine Tl.pa_cons ?_
      refine Tl.pe_s ?_
      refine Tl.pa_cons ?_
      refine Tl.pe_s ?_
      refine Tl.pa_nil ?_
      refine ⟨[_, _], rfl, (by first | decide | (simp; done)), ?_⟩
      refine ⟨_, .inr rfl, rfl, rfl, ?_⟩
      first | exact side_in _ | (cases v <;> simp_all [isSideD]; done)
    · skip
      try simp only [eqv_int, eqv_side, eqv_sideL, Bool.not_eq_true, Bool.not_eq_false, decide_eq_true_eq, decide_eq_false_iff_not, Bool.not_eq_true', Bool.not_eq_false'] at h1
      first | exact side_in _ | (cases v <;> simp_all [isSideD]; done)
  exact hk

abbrev st_is_border : Stmt := topS 18
theorem sc_is_border : FnScope ["value"] ["value"] (defScope st_is_border) := ⟨rfl, rfl, rfl, by decide +kernel, rfl, by decide +kernel, by decide +kernel⟩
theorem ok_is_border (F : Df K mg "is_border" st_is_border ["value"]) (g_is_pair : Ok P w K mg base 1 "is_pair" ["value"] s_is_pair) (g_is_integer : Ok P w K mg base 1 "is_integer" ["value", "low", "high"] s_is_integer) (g_is_side : Ok P w K mg base 1 "is_side" ["value"] s_is_side) : Ok P w K mg base 2 "is_border" ["value"] s_is_border := by
  refine ok_of F sc_is_border (by decide) (by rintro _ _ _ ⟨v, rfl, _⟩; rfl) ?_
  rintro f cdv A outer s H E _ k ex hr ⟨v, rfl, hk⟩
  show Pss _ [.d v] _ _
  refine Tl.pss_one ?_
  refine Tl.ps_ret ?_
  refine cutE (.bool (isBorderD v)) ?_ ?_
  · skip
    refine Tl.pe_and ?_
    refine Tl.pe_call g_is_pair hr (by decide) ?_
    refine Tl.pa_cons ?_
    refine Tl.pe_nm 0 rfl ?_
    refine Tl.pa_nil ?_
    refine ⟨_, rfl, ?_⟩
    refine ⟨_, rfl, ?_⟩
    refine iteB (fun h1 => ?_) (fun h1 => ?_)
    · skip
      try simp only [eqv_int, eqv_side, eqv_sideL, Bool.not_eq_true, Bool.not_eq_false, decide_eq_true_eq, decide_eq_false_iff_not, Bool.not_eq_true', Bool.not_eq_false'] at h1
      obtain ⟨a, b, rfl⟩ := isPairD_iff.mp ‹isPairD v = true›
      refine Tl.pe_and ?_
      refine Tl.pe_call g_is_integer hr (by decide) ?_
      refine Tl.pa_cons ?_
      refine Tl.pe_at ?_
      refine Tl.pe_nm 0 rfl ?_
      refine ⟨_, _, rfl, rfl, ?_⟩
      refine Tl.pa_cons ?_
      refine Tl.pe_neg ?_
      refine Tl.pe_powc (v := 1000000000000000) ⟨by decide, by decide, by decide⟩ (by decide) ?_
      refine ⟨_, rfl, ?_⟩
      refine Tl.pa_cons ?_
      refine Tl.pe_powc (v := 1000000000000000) ⟨by decide, by decide, by decide⟩ (by decide) ?_
      refine Tl.pa_nil ?_
      refine ⟨_, _, _, rfl, ?_⟩
      refine ⟨_, rfl, ?_⟩
      refine iteB (fun h2 => ?_) (fun h2 => ?_)
      · skip
        try simp only [eqv_int, eqv_side, eqv_sideL, Bool.not_eq_true, Bool.not_eq_false, decide_eq_true_eq, decide_eq_false_iff_not, Bool.not_eq_true', Bool.not_eq_false'] at h2
        refine Tl.pe_1 ?_
        refine Tl.pe_call g_is_side hr (by decide) ?_
        refine Tl.pa_cons ?_
        refine Tl.pe_at ?_
        refine Tl.pe_nm 0 rfl ?_
        refine ⟨_, _, rfl, rfl, ?_⟩
        refine Tl.pa_nil ?_
        refine ⟨_, rfl, ?_⟩
        first | (simp_all [isBorderD]; done) | exact no_pair_border ‹_›
      · skip
        try simp only [eqv_int, eqv_side, eqv_sideL, Bool.not_eq_true, Bool.not_eq_false, decide_eq_true_eq, decide_eq_false_iff_not, Bool.not_eq_true', Bool.not_eq_false'] at h2
        first | (simp_all [isBorderD]; done) | exact no_pair_border ‹_›
    · skip
      try simp only [eqv_int, eqv_side, eqv_sideL, Bool.not_eq_true, Bool.not_eq_false, decide_eq_true_eq, decide_eq_false_iff_not, Bool.not_eq_true', Bool.not_eq_false'] at h1
      first | (simp_all [isBorderD]; done) | exact no_pair_border ‹_›
  exact hk

abbrev st_step_of : Stmt := topS 20
theorem sc_step_of : FnScope ["kind"] ["kind"] (defScope st_step_of) := ⟨rfl, rfl, rfl, by decide +kernel, rfl, by decide +kernel, by decide +kernel⟩
theorem ok_step_of (F : Df K mg "step_of" st_step_of ["kind"])  : Ok P w K mg base 1 "step_of" ["kind"] s_step_of := by
  refine ok_of F sc_step_of (by decide) (by rintro _ _ _ ⟨t, j, rfl, _⟩; rfl) ?_
  rintro f cdv A outer s H E _ k ex hr ⟨t, j, rfl, hk⟩
  show Pss _ [.d (kD t j)] _ _
  refine Tl.pss_one ?_
  refine Tl.ps_ret ?_
  refine Tl.pe_add ?_
  refine Tl.pe_at ?_
  refine Tl.pe_nm 0 rfl ?_
  refine ⟨_, _, rfl, rfl, ?_⟩
  refine Tl.pe_at ?_
  refine Tl.pe_nm 0 rfl ?_
  refine ⟨_, _, rfl, rfl, ?_⟩
  refine ⟨_, _, rfl, rfl, ?_⟩
  exact hk

abbrev st_row_fits : Stmt := topS 19
theorem sc_row_fits : FnScope ["kind", "value", "place"] ["kind", "value"] (defScope st_row_fits) := ⟨rfl, rfl, rfl, by decide +kernel, rfl, by decide +kernel, by decide +kernel⟩
theorem ok_row_fits (F : Df K mg "row_fits" st_row_fits ["kind", "value"]) (m_all : mg "all" = none) (g_is_pair : Ok P w K mg base 1 "is_pair" ["value"] s_is_pair) (g_is_integer : Ok P w K mg base 1 "is_integer" ["value", "low", "high"] s_is_integer) (g_step_of : Ok P w K mg base 1 "step_of" ["kind"] s_step_of) : Ok P w K mg base 2 "row_fits" ["kind", "value"] s_row_fits := by
  refine ok_of F sc_row_fits (by decide) (by rintro _ _ _ ⟨t, j, v, rfl, _⟩; rfl) ?_
  rintro f cdv A outer s H E _ k ex hr ⟨t, j, v, rfl, hk⟩
  show Pss _ [.d (kD t j), .d v, .un] _ _
  refine Tl.pss_cons ?_
  refine Tl.ps_if ?_
  refine Tl.pt_w ?_
  refine Tl.pw_or ?_
  refine Tl.pt_not ?_
  refine Tl.pt_e ?_
  refine Tl.pe_call g_is_pair hr (by decide) ?_
  refine Tl.pa_cons ?_
  refine Tl.pe_nm 1 rfl ?_
  refine Tl.pa_nil ?_
  refine ⟨_, rfl, ?_⟩
  refine ⟨_, rfl, ?_⟩
  refine iteB (fun h1 => ?_) (fun h1 => ?_)
  · skip
    try simp only [eqv_int, eqv_side, eqv_sideL, Bool.not_eq_true, Bool.not_eq_false, decide_eq_true_eq, decide_eq_false_iff_not, Bool.not_eq_true', Bool.not_eq_false'] at h1
    refine iteYes ?_
    refine Tl.pss_one ?_
    refine Tl.ps_ret ?_
    refine Tl.pe_b ?_
    exact (congrArg k (rowD_no ‹isPairD v = false›)).mpr hk
  · skip
    try simp only [eqv_int, eqv_side, eqv_sideL, Bool.not_eq_true, Bool.not_eq_false, decide_eq_true_eq, decide_eq_false_iff_not, Bool.not_eq_true', Bool.not_eq_false'] at h1
    obtain ⟨a, b, rfl⟩ := isPairD_iff.mp ‹isPairD v = true›
    refine Tl.pw_or1 ?_
    refine Tl.pt_not ?_
    refine Tl.pt_e ?_
    refine Tl.pe_all rfl m_all ?_
    refine Tl.pe_lc (own := [("place", 2)]) (.nm 2) rfl sc_row_fits.nd (show BlkOk ["kind", "value", "place"] (defScope st_row_fits) _ _ from blkOk_by (by decide +kernel)) (by decide) (fun _ _ _ _ _ => pg_name (i := 2) sc_row_fits.nd rfl (by first | exact Or.inl rfl | exact Or.inr rfl)) ?_
    refine Tl.lc_mp (fun d => .bool (isIntD d (-1000000000000) 1000000000000)) ?_
    refine Tl.pi_t ?_
    refine Tl.pe_nm 1 rfl ?_
    refine ⟨_, rfl, ?_⟩
    refine ⟨(by first | decide | (simp; done) | (simp; omega) | omega), ?_, ?_⟩
    · skip
      intro d hd
      refine ⟨_, rfl, rfl, fun _ _ _ _ _ => ?_⟩
      refine Tl.pe_call g_is_integer hr (by decide) ?_
      refine Tl.pa_cons ?_
      refine Tl.pe_nm 2 rfl ?_
      refine Tl.pa_cons ?_
      refine Tl.pe_neg ?_
      refine Tl.pe_powc (v := 1000000000000) ⟨by decide, by decide, by decide⟩ (by decide) ?_
      refine ⟨_, rfl, ?_⟩
      refine Tl.pa_cons ?_
      refine Tl.pe_powc (v := 1000000000000) ⟨by decide, by decide, by decide⟩ (by decide) ?_
      refine Tl.pa_nil ?_
      refine ⟨_, _, _, rfl, ?_⟩
      rfl
    refine ⟨_, (show _ = PyData.list ([isIntD a (-1000000000000) 1000000000000, isIntD b (-1000000000000) 1000000000000].map PyData.bool) from rfl), ?_⟩
    refine ⟨_, rfl, ?_⟩
    refine iteB (fun hall => ?_) (fun hall => ?_)
    · skip
      try simp only [eqv_int, eqv_side, eqv_sideL, Bool.not_eq_true, Bool.not_eq_false, decide_eq_true_eq, decide_eq_false_iff_not, Bool.not_eq_true', Bool.not_eq_false'] at hall
      refine Tl.pss_one ?_
      refine Tl.ps_ret ?_
      refine Tl.pe_b ?_
      exact (congrArg k (rowD_no2 hall)).mpr hk
    · skip
      try simp only [eqv_int, eqv_side, eqv_sideL, Bool.not_eq_true, Bool.not_eq_false, decide_eq_true_eq, decide_eq_false_iff_not, Bool.not_eq_true', Bool.not_eq_false'] at hall
      refine Tl.pss_nil ?_
      obtain ⟨s, e, rfl, rfl, hb1, hb2⟩ := rowD_yes hall
      refine Tl.pss_one ?_
      refine Tl.ps_ret ?_
      refine Tl.pe_ge ?_
      refine Tl.pe_sub ?_
      refine Tl.pe_at ?_
      refine Tl.pe_nm 1 rfl ?_
      refine ⟨_, _, rfl, rfl, ?_⟩
      refine Tl.pe_at ?_
      refine Tl.pe_nm 1 rfl ?_
      refine ⟨_, _, rfl, rfl, ?_⟩
      refine ⟨_, _, rfl, rfl, ?_⟩
      refine Tl.pe_mul ?_
      refine Tl.pe_i ?_
      refine Tl.pe_call g_step_of hr (by decide) ?_
      refine Tl.pa_cons ?_
      refine Tl.pe_nm 0 rfl ?_
      refine Tl.pa_nil ?_
      refine ⟨_, _, rfl, ?_⟩
      refine ⟨_, _, rfl, rfl, (by first | exact .inl ⟨by omega, by omega⟩ | exact .inr ⟨by omega, by omega⟩), ?_⟩
      refine ⟨_, _, rfl, rfl, ?_⟩
      refine (congrArg (fun z => k (PyData.bool z)) ?_).mp hk
      simp [isRowD, hb1, hb2]

abbrev st_need_kind : Stmt := topS 21
theorem sc_need_kind : FnScope ["value"] ["value"] (defScope st_need_kind) := ⟨rfl, rfl, rfl, by decide +kernel, rfl, by decide +kernel, by decide +kernel⟩
theorem ok_need_kind {cl_InvalidKind : Addr} (F : Df K mg "need_kind" st_need_kind ["value"]) (g_is_kind : Ok P w K mg base 2 "is_kind" ["value"] s_is_kind) (x_InvalidKind : XF K mg "InvalidKind" cl_InvalidKind) : Ok P w K mg base 3 "need_kind" ["value"] (s_need_kind cl_InvalidKind) := by
  refine ok_of F sc_need_kind (by decide) (by rintro _ _ _ ⟨v, rfl, _⟩; rfl) ?_
  rintro f cdv A outer s H E _ k ex hr ⟨v, rfl, hk, hx⟩
  show Pss _ [.d v] _ _
  refine Tl.pss_cons ?_
  refine Tl.ps_if ?_
  refine Tl.pt_not ?_
  refine Tl.pt_e ?_
  refine Tl.pe_call g_is_kind hr (by decide) ?_
  refine Tl.pa_cons ?_
  refine Tl.pe_nm 0 rfl ?_
  refine Tl.pa_nil ?_
  refine ⟨_, rfl, ?_⟩
  refine ⟨_, rfl, ?_⟩
  refine iteB (fun h1 => ?_) (fun h1 => ?_)
  · skip
    try simp only [eqv_int, eqv_side, eqv_sideL, Bool.not_eq_true, Bool.not_eq_false, decide_eq_true_eq, decide_eq_false_iff_not, Bool.not_eq_true', Bool.not_eq_false'] at h1
    refine Tl.pss_cons ?_
    refine Tl.ps_raise rfl PySem.F.excBase_ValueError x_InvalidKind.exc x_InvalidKind.glob x_InvalidKind.kp (raises_own x_InvalidKind.base x_InvalidKind.typ) rfl ?_
    exact hx (by simp_all)
  · skip
    try simp only [eqv_int, eqv_side, eqv_sideL, Bool.not_eq_true, Bool.not_eq_false, decide_eq_true_eq, decide_eq_false_iff_not, Bool.not_eq_true', Bool.not_eq_false'] at h1
    refine Tl.pss_nil ?_
    refine Tl.pss_nil ?_
    exact hk (by simp_all)

abbrev st_need_offset : Stmt := topS 22
theorem sc_need_offset : FnScope ["kind", "value"] ["kind", "value"] (defScope st_need_offset) := ⟨rfl, rfl, rfl, by decide +kernel, rfl, by decide +kernel, by decide +kernel⟩
theorem ok_need_offset {cl_InvalidOffset : Addr} (F : Df K mg "need_offset" st_need_offset ["kind", "value"]) (g_is_integer : Ok P w K mg base 1 "is_integer" ["value", "low", "high"] s_is_integer) (g_step_of : Ok P w K mg base 1 "step_of" ["kind"] s_step_of) (x_InvalidOffset : XF K mg "InvalidOffset" cl_InvalidOffset) : Ok P w K mg base 2 "need_offset" ["kind", "value"] (s_need_offset cl_InvalidOffset) := by
  refine ok_of F sc_need_offset (by decide) (by rintro _ _ _ ⟨t, j, v, rfl, _⟩; rfl) ?_
  rintro f cdv A outer s H E _ k ex hr ⟨t, j, v, rfl, hk, hx⟩
  show Pss _ [.d (kD t j), .d v] _ _
  refine Tl.pss_cons ?_
  refine Tl.ps_if ?_
  refine Tl.pt_not ?_
  refine Tl.pt_e ?_
  refine Tl.pe_call g_is_integer hr (by decide) ?_
  refine Tl.pa_cons ?_
  refine Tl.pe_nm 1 rfl ?_
  refine Tl.pa_cons ?_
  refine Tl.pe_i ?_
  refine Tl.pa_cons ?_
  refine Tl.pe_sub ?_
  refine Tl.pe_call g_step_of hr (by decide) ?_
  refine Tl.pa_cons ?_
  refine Tl.pe_nm 0 rfl ?_
  refine Tl.pa_nil ?_
  refine ⟨_, _, rfl, ?_⟩
  refine Tl.pe_i ?_
  refine ⟨_, _, rfl, rfl, ?_⟩
  refine Tl.pa_nil ?_
  refine ⟨_, _, _, rfl, ?_⟩
  refine ⟨_, rfl, ?_⟩
  refine iteB (fun h1 => ?_) (fun h1 => ?_)
  · skip
    try simp only [eqv_int, eqv_side, eqv_sideL, Bool.not_eq_true, Bool.not_eq_false, decide_eq_true_eq, decide_eq_false_iff_not, Bool.not_eq_true', Bool.not_eq_false'] at h1
    refine Tl.pss_cons ?_
    refine Tl.ps_raise rfl PySem.F.excBase_ValueError x_InvalidOffset.exc x_InvalidOffset.glob x_InvalidOffset.kp (raises_own x_InvalidOffset.base x_InvalidOffset.typ) rfl ?_
    exact hx (by simp_all)
  · skip
    try simp only [eqv_int, eqv_side, eqv_sideL, Bool.not_eq_true, Bool.not_eq_false, decide_eq_true_eq, decide_eq_false_iff_not, Bool.not_eq_true', Bool.not_eq_false'] at h1
    refine Tl.pss_nil ?_
    refine Tl.pss_nil ?_
    exact hk (by simp_all)

abbrev st_need_border : Stmt := topS 23
theorem sc_need_border : FnScope ["value"] ["value"] (defScope st_need_border) := ⟨rfl, rfl, rfl, by decide +kernel, rfl, by decide +kernel, by decide +kernel⟩
theorem ok_need_border {cl_InvalidBorder : Addr} (F : Df K mg "need_border" st_need_border ["value"]) (g_is_border : Ok P w K mg base 2 "is_border" ["value"] s_is_border) (x_InvalidBorder : XF K mg "InvalidBorder" cl_InvalidBorder) : Ok P w K mg base 3 "need_border" ["value"] (s_need_border cl_InvalidBorder) := by
  refine ok_of F sc_need_border (by decide) (by rintro _ _ _ ⟨v, rfl, _⟩; rfl) ?_
  rintro f cdv A outer s H E _ k ex hr ⟨v, rfl, hk, hx⟩
  show Pss _ [.d v] _ _
  refine Tl.pss_cons ?_
  refine Tl.ps_if ?_
  refine Tl.pt_not ?_
  refine Tl.pt_e ?_
  refine Tl.pe_call g_is_border hr (by decide) ?_
  refine Tl.pa_cons ?_
  refine Tl.pe_nm 0 rfl ?_
  refine Tl.pa_nil ?_
  refine ⟨_, rfl, ?_⟩
  refine ⟨_, rfl, ?_⟩
  refine iteB (fun h1 => ?_) (fun h1 => ?_)
  · skip
    try simp only [eqv_int, eqv_side, eqv_sideL, Bool.not_eq_true, Bool.not_eq_false, decide_eq_true_eq, decide_eq_false_iff_not, Bool.not_eq_true', Bool.not_eq_false'] at h1
    refine Tl.pss_cons ?_
    refine Tl.ps_raise rfl PySem.F.excBase_ValueError x_InvalidBorder.exc x_InvalidBorder.glob x_InvalidBorder.kp (raises_own x_InvalidBorder.base x_InvalidBorder.typ) rfl ?_
    exact hx (by simp_all)
  · skip
    try simp only [eqv_int, eqv_side, eqv_sideL, Bool.not_eq_true, Bool.not_eq_false, decide_eq_true_eq, decide_eq_false_iff_not, Bool.not_eq_true', Bool.not_eq_false'] at h1
    refine Tl.pss_nil ?_
    refine Tl.pss_nil ?_
    exact hk (by simp_all)

abbrev st_need_borders : Stmt := topS 24
theorem sc_need_borders : FnScope ["value", "border"] ["value"] (defScope st_need_borders) := ⟨rfl, rfl, rfl, by decide +kernel, rfl, by decide +kernel, by decide +kernel⟩
theorem ok_need_borders {cl_InvalidBorder : Addr} (F : Df K mg "need_borders" st_need_borders ["value"]) (m_all : mg "all" = none) (m_isinstance : mg "isinstance" = none) (m_len : mg "len" = none) (m_tuple : mg "tuple" = none) (g_is_border : Ok P w K mg base 2 "is_border" ["value"] s_is_border) (x_InvalidBorder : XF K mg "InvalidBorder" cl_InvalidBorder) : Ok P w K mg base 3 "need_borders" ["value"] (s_need_borders cl_InvalidBorder) := by
  refine ok_of F sc_need_borders (by decide) (by rintro _ _ _ ⟨v, rfl, _⟩; rfl) ?_
  rintro f cdv A outer s H E _ k ex hr ⟨v, rfl, hk, hx⟩
  show Pss _ [.d v, .un] _ _
  refine Tl.pss_cons ?_
  refine Tl.ps_if ?_
  refine Tl.pt_w ?_
  refine Tl.pw_or ?_
  refine Tl.pt_not ?_
  refine Tl.pt_e ?_
  refine Tl.pe_isi kit_tuple (by decide +kernel) m_isinstance m_tuple ?_
  refine Tl.pe_nm 0 rfl ?_
  refine ⟨_, rfl, ?_⟩
  refine iteB (fun h1 => ?_) (fun h1 => ?_)
  · skip
    try simp only [eqv_int, eqv_side, eqv_sideL, Bool.not_eq_true, Bool.not_eq_false, decide_eq_true_eq, decide_eq_false_iff_not, Bool.not_eq_true', Bool.not_eq_false'] at h1
    refine iteYes ?_
    refine Tl.pss_cons ?_
    refine Tl.ps_raise rfl PySem.F.excBase_ValueError x_InvalidBorder.exc x_InvalidBorder.glob x_InvalidBorder.kp (raises_own x_InvalidBorder.base x_InvalidBorder.typ) rfl ?_
    exact hx (by first | (cases v <;> simp_all [isBordersD]; done) | (simp_all [isBordersD]; done) | (simp_all [isBordersD]; omega) | (simp only [isBordersD]; simp_all; omega))
  · skip
    try simp only [eqv_int, eqv_side, eqv_sideL, Bool.not_eq_true, Bool.not_eq_false, decide_eq_true_eq, decide_eq_false_iff_not, Bool.not_eq_true', Bool.not_eq_false'] at h1
    obtain ⟨xs, rfl⟩ : ∃ xs, v = .tuple xs := by cases v <;> simp_all
    refine Tl.pw_or ?_
    refine Tl.pt_not ?_
    refine Tl.pt_ch op_le op_le ?_
    refine Tl.pe_i ?_
    refine Tl.pe_len m_len ?_
    refine Tl.pe_nm 0 rfl ?_
    refine ⟨_, .inr rfl, ?_⟩
    refine ⟨_, _, rfl, rfl, ?_⟩
    refine iteB (fun h2 => ?_) (fun h2 => ?_)
    all_goals (try simp only [decide_eq_true_eq, decide_eq_false_iff_not] at h2)
    · skip
      refine Tl.pe_i ?_
      refine ⟨_, rfl, ?_⟩
      refine iteB (fun h3 => ?_) (fun h3 => ?_)
      · skip
        try simp only [eqv_int, eqv_side, eqv_sideL, Bool.not_eq_true, Bool.not_eq_false, decide_eq_true_eq, decide_eq_false_iff_not, Bool.not_eq_true', Bool.not_eq_false'] at h3
        refine iteYes ?_
        refine Tl.pss_cons ?_
        refine Tl.ps_raise rfl PySem.F.excBase_ValueError x_InvalidBorder.exc x_InvalidBorder.glob x_InvalidBorder.kp (raises_own x_InvalidBorder.base x_InvalidBorder.typ) rfl ?_
        exact hx (by first | (cases v <;> simp_all [isBordersD]; done) | (simp_all [isBordersD]; done) | (simp_all [isBordersD]; omega) | (simp only [isBordersD]; simp_all; omega))
      · skip
        try simp only [eqv_int, eqv_side, eqv_sideL, Bool.not_eq_true, Bool.not_eq_false, decide_eq_true_eq, decide_eq_false_iff_not, Bool.not_eq_true', Bool.not_eq_false'] at h3
        refine Tl.pw_or1 ?_
        refine Tl.pt_not ?_
        refine Tl.pt_e ?_
        refine Tl.pe_all rfl m_all ?_
        refine Tl.pe_lc (own := [("border", 1)]) (.nm 1) rfl sc_need_borders.nd (show BlkOk ["value", "border"] (defScope st_need_borders) _ _ from blkOk_by (by decide +kernel)) (by decide) (fun _ _ _ _ _ => pg_name (i := 1) sc_need_borders.nd rfl (by first | exact Or.inl rfl | exact Or.inr rfl)) ?_
        refine Tl.lc_mp (fun d => .bool (isBorderD d)) ?_
        refine Tl.pi_t ?_
        refine Tl.pe_nm 0 rfl ?_
        refine ⟨_, rfl, ?_⟩
        refine ⟨(by first | decide | (simp; done) | (simp; omega) | omega), ?_, ?_⟩
        · skip
          intro d hd
          refine ⟨_, rfl, rfl, fun _ _ _ _ _ => ?_⟩
          refine Tl.pe_call g_is_border hr (by decide) ?_
          refine Tl.pa_cons ?_
          refine Tl.pe_nm 1 rfl ?_
          refine Tl.pa_nil ?_
          refine ⟨_, rfl, ?_⟩
          rfl
        refine ⟨_, (show PyData.list (List.map (fun d => PyData.bool (isBorderD d)) xs) = .list ((xs.map isBorderD).map .bool) by rw [List.map_map]; rfl), ?_⟩
        refine ⟨_, rfl, ?_⟩
        refine iteB (fun h4 => ?_) (fun h4 => ?_)
        · skip
          try simp only [eqv_int, eqv_side, eqv_sideL, Bool.not_eq_true, Bool.not_eq_false, decide_eq_true_eq, decide_eq_false_iff_not, Bool.not_eq_true', Bool.not_eq_false'] at h4
          refine Tl.pss_cons ?_
          refine Tl.ps_raise rfl PySem.F.excBase_ValueError x_InvalidBorder.exc x_InvalidBorder.glob x_InvalidBorder.kp (raises_own x_InvalidBorder.base x_InvalidBorder.typ) rfl ?_
          exact hx (by first | (cases v <;> simp_all [isBordersD]; done) | (simp_all [isBordersD]; done) | (simp_all [isBordersD]; omega) | (simp only [isBordersD]; simp_all; omega))
        · skip
          try simp only [eqv_int, eqv_side, eqv_sideL, Bool.not_eq_true, Bool.not_eq_false, decide_eq_true_eq, decide_eq_false_iff_not, Bool.not_eq_true', Bool.not_eq_false'] at h4
          refine Tl.pss_nil ?_
          refine Tl.pss_nil ?_
          exact hk (by simp only [isBordersD, Bool.and_eq_true, decide_eq_true_eq]; simp_all)
    · skip
      refine iteYes ?_
      refine iteYes ?_
      refine Tl.pss_cons ?_
      refine Tl.ps_raise rfl PySem.F.excBase_ValueError x_InvalidBorder.exc x_InvalidBorder.glob x_InvalidBorder.kp (raises_own x_InvalidBorder.base x_InvalidBorder.typ) rfl ?_
      exact hx (by first | (cases v <;> simp_all [isBordersD]; done) | (simp_all [isBordersD]; done) | (simp_all [isBordersD]; omega) | (simp only [isBordersD]; simp_all; omega))

abbrev st_need_row : Stmt := topS 25
theorem sc_need_row : FnScope ["kind", "value"] ["kind", "value"] (defScope st_need_row) := ⟨rfl, rfl, rfl, by decide +kernel, rfl, by decide +kernel, by decide +kernel⟩
theorem ok_need_row {cl_InvalidRow : Addr} (F : Df K mg "need_row" st_need_row ["kind", "value"]) (g_row_fits : Ok P w K mg base 2 "row_fits" ["kind", "value"] s_row_fits) (x_InvalidRow : XF K mg "InvalidRow" cl_InvalidRow) : Ok P w K mg base 3 "need_row" ["kind", "value"] (s_need_row cl_InvalidRow) := by
  refine ok_of F sc_need_row (by decide) (by rintro _ _ _ ⟨t, j, v, rfl, _⟩; rfl) ?_
  rintro f cdv A outer s H E _ k ex hr ⟨t, j, v, rfl, hk, hx⟩
  show Pss _ [.d (kD t j), .d v] _ _
  refine Tl.pss_cons ?_
  refine Tl.ps_if ?_
  refine Tl.pt_not ?_
  refine Tl.pt_e ?_
  refine Tl.pe_call g_row_fits hr (by decide) ?_
  refine Tl.pa_cons ?_
  refine Tl.pe_nm 0 rfl ?_
  refine Tl.pa_cons ?_
  refine Tl.pe_nm 1 rfl ?_
  refine Tl.pa_nil ?_
  refine ⟨_, _, _, rfl, ?_⟩
  refine ⟨_, rfl, ?_⟩
  refine iteB (fun h1 => ?_) (fun h1 => ?_)
  · skip
    try simp only [eqv_int, eqv_side, eqv_sideL, Bool.not_eq_true, Bool.not_eq_false, decide_eq_true_eq, decide_eq_false_iff_not, Bool.not_eq_true', Bool.not_eq_false'] at h1
    refine Tl.pss_cons ?_
    refine Tl.ps_raise rfl PySem.F.excBase_ValueError x_InvalidRow.exc x_InvalidRow.glob x_InvalidRow.kp (raises_own x_InvalidRow.base x_InvalidRow.typ) rfl ?_
    exact hx (by simp_all)
  · skip
    try simp only [eqv_int, eqv_side, eqv_sideL, Bool.not_eq_true, Bool.not_eq_false, decide_eq_true_eq, decide_eq_false_iff_not, Bool.not_eq_true', Bool.not_eq_false'] at h1
    refine Tl.pss_nil ?_
    refine Tl.pss_nil ?_
    exact hk (by simp_all)

abbrev st_need_rows : Stmt := topS 26
theorem sc_need_rows : FnScope ["kind", "value", "row"] ["kind", "value"] (defScope st_need_rows) := ⟨rfl, rfl, rfl, by decide +kernel, rfl, by decide +kernel, by decide +kernel⟩
theorem ok_need_rows {cl_InvalidRow : Addr} (F : Df K mg "need_rows" st_need_rows ["kind", "value"]) (m_all : mg "all" = none) (m_isinstance : mg "isinstance" = none) (m_len : mg "len" = none) (m_tuple : mg "tuple" = none) (g_row_fits : Ok P w K mg base 2 "row_fits" ["kind", "value"] s_row_fits) (x_InvalidRow : XF K mg "InvalidRow" cl_InvalidRow) : Ok P w K mg base 3 "need_rows" ["kind", "value"] (s_need_rows cl_InvalidRow) := by
  refine ok_of F sc_need_rows (by decide) (by rintro _ _ _ ⟨t, j, v, rfl, _⟩; rfl) ?_
  rintro f cdv A outer s H E _ k ex hr ⟨t, j, v, rfl, hk, hx⟩
  show Pss _ [.d (kD t j), .d v, .un] _ _
  refine Tl.pss_cons ?_
  refine Tl.ps_if ?_
  refine Tl.pt_w ?_
  refine Tl.pw_or ?_
  refine Tl.pt_not ?_
  refine Tl.pt_e ?_
  refine Tl.pe_isi kit_tuple (by decide +kernel) m_isinstance m_tuple ?_
  refine Tl.pe_nm 1 rfl ?_
  refine ⟨_, rfl, ?_⟩
  refine iteB (fun h1 => ?_) (fun h1 => ?_)
  · skip
    try simp only [eqv_int, eqv_side, eqv_sideL, Bool.not_eq_true, Bool.not_eq_false, decide_eq_true_eq, decide_eq_false_iff_not, Bool.not_eq_true', Bool.not_eq_false'] at h1
    refine iteYes ?_
    refine Tl.pss_cons ?_
    refine Tl.ps_raise rfl PySem.F.excBase_ValueError x_InvalidRow.exc x_InvalidRow.glob x_InvalidRow.kp (raises_own x_InvalidRow.base x_InvalidRow.typ) rfl ?_
    exact hx (by first | (cases v <;> simp_all [isRowsD]; done) | (simp_all [isRowsD]; done) | (simp_all [isRowsD]; omega) | (simp only [isRowsD]; simp_all; omega))
  · skip
    try simp only [eqv_int, eqv_side, eqv_sideL, Bool.not_eq_true, Bool.not_eq_false, decide_eq_true_eq, decide_eq_false_iff_not, Bool.not_eq_true', Bool.not_eq_false'] at h1
    obtain ⟨xs, rfl⟩ : ∃ xs, v = .tuple xs := by cases v <;> simp_all
    refine Tl.pw_or ?_
    refine Tl.pt_not ?_
    refine Tl.pt_ch op_le op_le ?_
    refine Tl.pe_i ?_
    refine Tl.pe_len m_len ?_
    refine Tl.pe_nm 1 rfl ?_
    refine ⟨_, .inr rfl, ?_⟩
    refine ⟨_, _, rfl, rfl, ?_⟩
    refine iteB (fun h2 => ?_) (fun h2 => ?_)
    all_goals (try simp only [decide_eq_true_eq, decide_eq_false_iff_not] at h2)
    · skip
      refine Tl.pe_i ?_
      refine ⟨_, rfl, ?_⟩
      refine iteB (fun h3 => ?_) (fun h3 => ?_)
      · skip
        try simp only [eqv_int, eqv_side, eqv_sideL, Bool.not_eq_true, Bool.not_eq_false, decide_eq_true_eq, decide_eq_false_iff_not, Bool.not_eq_true', Bool.not_eq_false'] at h3
        refine iteYes ?_
        refine Tl.pss_cons ?_
        refine Tl.ps_raise rfl PySem.F.excBase_ValueError x_InvalidRow.exc x_InvalidRow.glob x_InvalidRow.kp (raises_own x_InvalidRow.base x_InvalidRow.typ) rfl ?_
        exact hx (by first | (cases v <;> simp_all [isRowsD]; done) | (simp_all [isRowsD]; done) | (simp_all [isRowsD]; omega) | (simp only [isRowsD]; simp_all; omega))
      · skip
        try simp only [eqv_int, eqv_side, eqv_sideL, Bool.not_eq_true, Bool.not_eq_false, decide_eq_true_eq, decide_eq_false_iff_not, Bool.not_eq_true', Bool.not_eq_false'] at h3
        refine Tl.pw_or1 ?_
        refine Tl.pt_not ?_
        refine Tl.pt_e ?_
        refine Tl.pe_all rfl m_all ?_
        refine Tl.pe_lc (own := [("row", 2)]) (.nm 2) rfl sc_need_rows.nd (show BlkOk ["kind", "value", "row"] (defScope st_need_rows) _ _ from blkOk_by (by decide +kernel)) (by decide) (fun _ _ _ _ _ => pg_name (i := 2) sc_need_rows.nd rfl (by first | exact Or.inl rfl | exact Or.inr rfl)) ?_
        refine Tl.lc_mp (fun d => .bool (isRowD t j d)) ?_
        refine Tl.pi_t ?_
        refine Tl.pe_nm 1 rfl ?_
        refine ⟨_, rfl, ?_⟩
        refine ⟨(by first | decide | (simp; done) | (simp; omega) | omega), ?_, ?_⟩
        · skip
          intro d hd
          refine ⟨_, rfl, rfl, fun _ _ _ _ _ => ?_⟩
          refine Tl.pe_call g_row_fits hr (by decide) ?_
          refine Tl.pa_cons ?_
          refine Tl.pe_nm 0 rfl ?_
          refine Tl.pa_cons ?_
          refine Tl.pe_nm 2 rfl ?_
          refine Tl.pa_nil ?_
          refine ⟨_, _, _, rfl, ?_⟩
          rfl
        refine ⟨_, (show PyData.list (List.map (fun d => PyData.bool (isRowD t j d)) xs) = .list ((xs.map (isRowD t j)).map .bool) by rw [List.map_map]; rfl), ?_⟩
        refine ⟨_, rfl, ?_⟩
        refine iteB (fun h4 => ?_) (fun h4 => ?_)
        · skip
          try simp only [eqv_int, eqv_side, eqv_sideL, Bool.not_eq_true, Bool.not_eq_false, decide_eq_true_eq, decide_eq_false_iff_not, Bool.not_eq_true', Bool.not_eq_false'] at h4
          refine Tl.pss_cons ?_
          refine Tl.ps_raise rfl PySem.F.excBase_ValueError x_InvalidRow.exc x_InvalidRow.glob x_InvalidRow.kp (raises_own x_InvalidRow.base x_InvalidRow.typ) rfl ?_
          exact hx (by first | (cases v <;> simp_all [isRowsD]; done) | (simp_all [isRowsD]; done) | (simp_all [isRowsD]; omega) | (simp only [isRowsD]; simp_all; omega))
        · skip
          try simp only [eqv_int, eqv_side, eqv_sideL, Bool.not_eq_true, Bool.not_eq_false, decide_eq_true_eq, decide_eq_false_iff_not, Bool.not_eq_true', Bool.not_eq_false'] at h4
          refine Tl.pss_nil ?_
          refine Tl.pss_nil ?_
          exact hk (by simp only [isRowsD, Bool.and_eq_true, decide_eq_true_eq]; first | (simp_all; done) | (simp_all; omega))
    · skip
      refine iteYes ?_
      refine iteYes ?_
      refine Tl.pss_cons ?_
      refine Tl.ps_raise rfl PySem.F.excBase_ValueError x_InvalidRow.exc x_InvalidRow.glob x_InvalidRow.kp (raises_own x_InvalidRow.base x_InvalidRow.typ) rfl ?_
      exact hx (by first | (cases v <;> simp_all [isRowsD]; done) | (simp_all [isRowsD]; done) | (simp_all [isRowsD]; omega) | (simp only [isRowsD]; simp_all; omega))

abbrev st_need_number : Stmt := topS 27
theorem sc_need_number : FnScope ["value", "low", "high"] ["value", "low", "high"] (defScope st_need_number) := ⟨rfl, rfl, rfl, by decide +kernel, rfl, by decide +kernel, by decide +kernel⟩
theorem ok_need_number {cl_InvalidNumber : Addr} (F : Df K mg "need_number" st_need_number ["value", "low", "high"]) (g_is_integer : Ok P w K mg base 1 "is_integer" ["value", "low", "high"] s_is_integer) (x_InvalidNumber : XF K mg "InvalidNumber" cl_InvalidNumber) : Ok P w K mg base 2 "need_number" ["value", "low", "high"] (s_need_number cl_InvalidNumber) := by
  refine ok_of F sc_need_number (by decide) (by rintro _ _ _ ⟨v, lo, hi, rfl, _⟩; rfl) ?_
  rintro f cdv A outer s H E _ k ex hr ⟨v, lo, hi, rfl, hk, hx⟩
  show Pss _ [.d v, .d (.int lo), .d (.int hi)] _ _
  refine Tl.pss_cons ?_
  refine Tl.ps_if ?_
  refine Tl.pt_not ?_
  refine Tl.pt_e ?_
  refine Tl.pe_call g_is_integer hr (by decide) ?_
  refine Tl.pa_cons ?_
  refine Tl.pe_nm 0 rfl ?_
  refine Tl.pa_cons ?_
  refine Tl.pe_nm 1 rfl ?_
  refine Tl.pa_cons ?_
  refine Tl.pe_nm 2 rfl ?_
  refine Tl.pa_nil ?_
  refine ⟨_, _, _, rfl, ?_⟩
  refine ⟨_, rfl, ?_⟩
  refine iteB (fun h1 => ?_) (fun h1 => ?_)
  · skip
    try simp only [eqv_int, eqv_side, eqv_sideL, Bool.not_eq_true, Bool.not_eq_false, decide_eq_true_eq, decide_eq_false_iff_not, Bool.not_eq_true', Bool.not_eq_false'] at h1
    refine Tl.pss_cons ?_
    refine Tl.ps_raise rfl PySem.F.excBase_ValueError x_InvalidNumber.exc x_InvalidNumber.glob x_InvalidNumber.kp (raises_own x_InvalidNumber.base x_InvalidNumber.typ) rfl ?_
    exact hx (by simp_all)
  · skip
    try simp only [eqv_int, eqv_side, eqv_sideL, Bool.not_eq_true, Bool.not_eq_false, decide_eq_true_eq, decide_eq_false_iff_not, Bool.not_eq_true', Bool.not_eq_false'] at h1
    refine Tl.pss_nil ?_
    refine Tl.pss_nil ?_
    exact hk (by simp_all)

abbrev st_width_of : Stmt := topS 28
theorem sc_width_of : FnScope ["kind", "offset", "border", "place", "side", "rest"] ["kind", "offset", "border"] (defScope st_width_of) := ⟨rfl, rfl, rfl, by decide +kernel, rfl, by decide +kernel, by decide +kernel⟩
theorem ok_width_of (F : Df K mg "width_of" st_width_of ["kind", "offset", "border"]) (m_max : mg "max" = none) (g_step_of : Ok P w K mg base 1 "step_of" ["kind"] s_step_of) : Ok P w K mg base 2 "width_of" ["kind", "offset", "border"] s_width_of := by
  refine ok_of F sc_width_of (by decide) (by rintro _ _ _ ⟨t, j, o, p, rt, rfl, _, _⟩; rfl) ?_
  rintro f cdv A outer s H E _ k ex hr ⟨t, j, o, p, rt, rfl, hs, hk⟩
  show Pss _ [.d (kD t j), .d (.int o), .d (bD p rt), .un, .un, .un] _ _
  refine Tl.pss_cons ?_
  refine @Tl.ps_unp _ _ _ _ _ _ [3, 4] (pg_tup rfl (pgs_cons (pg_name (i := 3) sc_width_of.nd rfl (by first | exact Or.inl rfl | exact Or.inr rfl)) (pgs_cons (pg_name (i := 4) sc_width_of.nd rfl (by first | exact Or.inl rfl | exact Or.inr rfl)) pgs_nil))) ?_ rfl rfl rfl
  refine Tl.pe_nm 2 rfl ?_
  refine ⟨_, rfl, ?_⟩
  refine Tl.pss_cons ?_
  refine Tl.ps_as 5 sc_width_of.nd ?_
  refine Tl.pe_mod ?_
  refine Tl.pe_sub ?_
  refine Tl.pe_nm 3 rfl ?_
  refine Tl.pe_nm 1 rfl ?_
  refine ⟨_, _, rfl, rfl, ?_⟩
  refine Tl.pe_call g_step_of hr (by decide) ?_
  refine Tl.pa_cons ?_
  refine Tl.pe_nm 0 rfl ?_
  refine Tl.pa_nil ?_
  refine ⟨_, _, rfl, ?_⟩
  refine ⟨_, _, rfl, rfl, (by omega), ?_⟩
  refine Tl.pss_cons ?_
  refine Tl.ps_if ?_
  refine Tl.pt_eq hr.units ?_
  refine Tl.pe_nm 4 rfl ?_
  refine Tl.pe_s ?_
  refine ⟨(by first | rfl | assumption | exact ints_shaped _ | exact shaped_side _ | decide +kernel), (by first | rfl | assumption | exact ints_shaped _ | exact shaped_side _ | decide +kernel), ?_⟩
  refine iteB (fun h1 => ?_) (fun h1 => ?_)
  · skip
    try simp only [eqv_int, eqv_side, eqv_sideL, Bool.not_eq_true, Bool.not_eq_false, decide_eq_true_eq, decide_eq_false_iff_not, Bool.not_eq_true', Bool.not_eq_false'] at h1
    refine Tl.pss_one ?_
    refine Tl.ps_ret ?_
    refine Tl.pe_max2 rfl m_max ?_
    refine Tl.pe_i ?_
    refine Tl.pe_sub ?_
    refine Tl.pe_at ?_
    refine Tl.pe_nm 0 rfl ?_
    refine ⟨_, _, rfl, rfl, ?_⟩
    refine Tl.pe_nm 5 rfl ?_
    refine ⟨_, _, rfl, rfl, ?_⟩
    refine ⟨_, _, rfl, rfl, ?_⟩
    exact (congrArg (fun z => k (PyData.int z)) (by unfold width; (repeat' split) <;> first | rfl | (exfalso; first | omega | (simp_all; done)))).mp hk
  · skip
    try simp only [eqv_int, eqv_side, eqv_sideL, Bool.not_eq_true, Bool.not_eq_false, decide_eq_true_eq, decide_eq_false_iff_not, Bool.not_eq_true', Bool.not_eq_false'] at h1
    refine Tl.pss_nil ?_
    refine Tl.pss_cons ?_
    refine Tl.ps_if ?_
    refine Tl.pt_eq hr.units ?_
    refine Tl.pe_nm 5 rfl ?_
    refine Tl.pe_i ?_
    refine ⟨(by first | rfl | assumption | exact ints_shaped _ | exact shaped_side _ | decide +kernel), (by first | rfl | assumption | exact ints_shaped _ | exact shaped_side _ | decide +kernel), ?_⟩
    refine iteB (fun h2 => ?_) (fun h2 => ?_)
    · skip
      try simp only [eqv_int, eqv_side, eqv_sideL, Bool.not_eq_true, Bool.not_eq_false, decide_eq_true_eq, decide_eq_false_iff_not, Bool.not_eq_true', Bool.not_eq_false'] at h2
      refine Tl.pss_one ?_
      refine Tl.ps_ret ?_
      refine Tl.pe_ife ?_
      refine Tl.pt_eq hr.units ?_
      refine Tl.pe_at ?_
      refine Tl.pe_nm 0 rfl ?_
      refine ⟨_, _, rfl, rfl, ?_⟩
      refine Tl.pe_i ?_
      refine ⟨(by first | rfl | assumption | exact ints_shaped _ | exact shaped_side _ | decide +kernel), (by first | rfl | assumption | exact ints_shaped _ | exact shaped_side _ | decide +kernel), ?_⟩
      refine iteB (fun h3 => ?_) (fun h3 => ?_)
      · skip
        try simp only [eqv_int, eqv_side, eqv_sideL, Bool.not_eq_true, Bool.not_eq_false, decide_eq_true_eq, decide_eq_false_iff_not, Bool.not_eq_true', Bool.not_eq_false'] at h3
        refine Tl.pe_at ?_
        refine Tl.pe_nm 0 rfl ?_
        refine ⟨_, _, rfl, rfl, ?_⟩
        exact (congrArg (fun z => k (PyData.int z)) (by unfold width; (repeat' split) <;> first | rfl | (exfalso; first | omega | (simp_all; done)))).mp hk
      · skip
        try simp only [eqv_int, eqv_side, eqv_sideL, Bool.not_eq_true, Bool.not_eq_false, decide_eq_true_eq, decide_eq_false_iff_not, Bool.not_eq_true', Bool.not_eq_false'] at h3
        refine Tl.pe_i ?_
        exact (congrArg (fun z => k (PyData.int z)) (by unfold width; (repeat' split) <;> first | rfl | (exfalso; first | omega | (simp_all; done)))).mp hk
    · skip
      try simp only [eqv_int, eqv_side, eqv_sideL, Bool.not_eq_true, Bool.not_eq_false, decide_eq_true_eq, decide_eq_false_iff_not, Bool.not_eq_true', Bool.not_eq_false'] at h2
      refine Tl.pss_nil ?_
      refine Tl.pss_one ?_
      refine Tl.ps_ret ?_
      refine Tl.pe_ife ?_
      refine Tl.pt_le ?_
      refine Tl.pe_nm 5 rfl ?_
      refine Tl.pe_at ?_
      refine Tl.pe_nm 0 rfl ?_
      refine ⟨_, _, rfl, rfl, ?_⟩
      refine ⟨_, _, rfl, rfl, ?_⟩
      refine iteB (fun h4 => ?_) (fun h4 => ?_)
      · skip
        try simp only [eqv_int, eqv_side, eqv_sideL, Bool.not_eq_true, Bool.not_eq_false, decide_eq_true_eq, decide_eq_false_iff_not, Bool.not_eq_true', Bool.not_eq_false'] at h4
        refine Tl.pe_nm 5 rfl ?_
        exact (congrArg (fun z => k (PyData.int z)) (by unfold width; (repeat' split) <;> first | rfl | (exfalso; first | omega | (simp_all; done)))).mp hk
      · skip
        try simp only [eqv_int, eqv_side, eqv_sideL, Bool.not_eq_true, Bool.not_eq_false, decide_eq_true_eq, decide_eq_false_iff_not, Bool.not_eq_true', Bool.not_eq_false'] at h4
        refine Tl.pe_i ?_
        exact (congrArg (fun z => k (PyData.int z)) (by unfold width; (repeat' split) <;> first | rfl | (exfalso; first | omega | (simp_all; done)))).mp hk

abbrev st_pieces_of : Stmt := topS 29
theorem sc_pieces_of : FnScope ["kind", "offset", "row", "start", "end", "begin", "whole", "cut", "border"] ["kind", "offset", "row"] (defScope st_pieces_of) := ⟨rfl, rfl, rfl, by decide +kernel, rfl, by decide +kernel, by decide +kernel⟩
theorem ok_pieces_of (F : Df K mg "pieces_of" st_pieces_of ["kind", "offset", "row"]) (g_step_of : Ok P w K mg base 1 "step_of" ["kind"] s_step_of) (g_width_of : Ok P w K mg base 2 "width_of" ["kind", "offset", "border"] s_width_of) : Ok P w K mg base 3 "pieces_of" ["kind", "offset", "row"] s_pieces_of := by
  refine ok_of F sc_pieces_of (by decide) (by rintro _ _ _ ⟨t, j, o, s, e, rfl, _, _⟩; rfl) ?_
  rintro f cdv A outer s H E _ k ex hr ⟨t, j, o, s, e, rfl, hK, hk⟩
  show Pss _ [.d (kD t j), .d (.int o), .d (rD s e), .un, .un, .un, .un, .un, .un] _ _
  have hK1 := hK.t1; have hK2 := hK.t2; have hK3 := hK.j1; have hK4 := hK.j2
  refine Tl.pss_cons ?_
  refine @Tl.ps_unp _ _ _ _ _ _ [3, 4] (pg_tup rfl (pgs_cons (pg_name (i := 3) sc_pieces_of.nd rfl (by first | exact Or.inl rfl | exact Or.inr rfl)) (pgs_cons (pg_name (i := 4) sc_pieces_of.nd rfl (by first | exact Or.inl rfl | exact Or.inr rfl)) pgs_nil))) ?_ rfl rfl rfl
  refine Tl.pe_nm 2 rfl ?_
  refine ⟨_, rfl, ?_⟩
  refine Tl.pss_cons ?_
  refine Tl.ps_as 5 sc_pieces_of.nd ?_
  refine Tl.pe_add ?_
  refine Tl.pe_nm 3 rfl ?_
  refine Tl.pe_mod ?_
  refine Tl.pe_sub ?_
  refine Tl.pe_nm 1 rfl ?_
  refine Tl.pe_nm 3 rfl ?_
  refine ⟨_, _, rfl, rfl, ?_⟩
  refine Tl.pe_call g_step_of hr (by decide) ?_
  refine Tl.pa_cons ?_
  refine Tl.pe_nm 0 rfl ?_
  refine Tl.pa_nil ?_
  refine ⟨_, _, rfl, ?_⟩
  refine ⟨_, _, rfl, rfl, (by omega), ?_⟩
  refine ⟨_, _, rfl, rfl, ?_⟩
  refine Tl.pss_cons ?_
  refine Tl.ps_as 6 sc_pieces_of.nd ?_
  refine Tl.pe_fdiv ?_
  refine Tl.pe_add ?_
  refine Tl.pe_sub ?_
  refine Tl.pe_nm 4 rfl ?_
  refine Tl.pe_nm 5 rfl ?_
  refine ⟨_, _, rfl, rfl, ?_⟩
  refine Tl.pe_at ?_
  refine Tl.pe_nm 0 rfl ?_
  refine ⟨_, _, rfl, rfl, ?_⟩
  refine ⟨_, _, rfl, rfl, ?_⟩
  refine Tl.pe_call g_step_of hr (by decide) ?_
  refine Tl.pa_cons ?_
  refine Tl.pe_nm 0 rfl ?_
  refine Tl.pa_nil ?_
  refine ⟨_, _, rfl, ?_⟩
  refine ⟨_, _, rfl, rfl, ⟨by omega, by omega⟩, ?_⟩
  refine Tl.pss_cons ?_
  refine Tl.ps_asLc (own := [("border", 8)]) 7 (.nm 8) rfl sc_pieces_of.nd (show BlkOk ["kind", "offset", "row", "start", "end", "begin", "whole", "cut", "border"] (defScope st_pieces_of) _ _ from blkOk_by (by decide +kernel)) (by decide) (fun _ _ _ _ _ => pg_name (i := 8) sc_pieces_of.nd rfl (by first | exact Or.inl rfl | exact Or.inr rfl)) (sw_true rfl rfl rfl (by decide +kernel)) ?_
  refine Tl.lc_mp (fun d => .int (bw t j o d % t)) ?_
  refine Tl.pi_t ?_
  refine Tl.pe_tp ?_
  refine Tl.pa_cons ?_
  refine Tl.pe_tp ?_
  refine Tl.pa_cons ?_
  refine Tl.pe_nm 3 rfl ?_
  refine Tl.pa_cons ?_
  refine Tl.pe_s ?_
  refine Tl.pa_nil ?_
  refine ⟨[_, _], rfl, (by first | decide | (simp; done)), ?_⟩
  refine Tl.pa_cons ?_
  refine Tl.pe_tp ?_
  refine Tl.pa_cons ?_
  refine Tl.pe_nm 4 rfl ?_
  refine Tl.pa_cons ?_
  refine Tl.pe_s ?_
  refine Tl.pa_nil ?_
  refine ⟨[_, _], rfl, (by first | decide | (simp; done)), ?_⟩
  refine Tl.pa_nil ?_
  refine ⟨[_, _], rfl, (by first | decide | (simp; done)), ?_⟩
  refine ⟨_, rfl, ?_⟩
  refine ⟨(by first | decide | (simp; done) | (simp; omega) | omega), ?_, ?_⟩
  · skip
    intro d hd
    obtain ⟨p, rt, rfl⟩ : ∃ p rt, d = bD p rt := by
      rcases pick2 hd with rfl | rfl
      · exact ⟨_, true, rfl⟩
      · exact ⟨_, false, rfl⟩
    refine ⟨_, rfl, rfl, fun _ _ _ _ _ => ?_⟩
    refine Tl.pe_mod ?_
    refine Tl.pe_call g_width_of hr (by decide) ?_
    refine Tl.pa_cons ?_
    refine Tl.pe_nm 0 rfl ?_
    refine Tl.pa_cons ?_
    refine Tl.pe_nm 1 rfl ?_
    refine Tl.pa_cons ?_
    refine Tl.pe_nm 8 rfl ?_
    refine Tl.pa_nil ?_
    refine ⟨_, _, _, _, _, rfl, by omega, ?_⟩
    refine Tl.pe_at ?_
    refine Tl.pe_nm 0 rfl ?_
    refine ⟨_, _, rfl, rfl, ?_⟩
    refine ⟨_, _, rfl, rfl, (by omega), ?_⟩
    rw [bw_bD]
  refine Tl.pss_one ?_
  refine Tl.ps_ret ?_
  refine Tl.pe_tp ?_
  refine Tl.pa_cons ?_
  refine Tl.pe_ixL ?_
  refine Tl.pe_nm 7 rfl ?_
  refine Tl.pe_i ?_
  refine ⟨_, _, _, rfl, rfl, rfl, ?_⟩
  refine Tl.pa_cons ?_
  refine Tl.pe_nm 6 rfl ?_
  refine Tl.pa_cons ?_
  refine Tl.pe_ixL ?_
  refine Tl.pe_nm 7 rfl ?_
  refine Tl.pe_i ?_
  refine ⟨_, _, _, rfl, rfl, rfl, ?_⟩
  refine Tl.pa_nil ?_
  refine ⟨[_, _, _], rfl, (by first | decide | (simp; done)), ?_⟩
  show k (.tuple [.int (bw t j o (bD s true) % t), .int _, .int (bw t j o (bD e false) % t)])
  rw [bw_bD, bw_bD]
  exact hk

abbrev st_row_pieces : Stmt := topS 30
theorem sc_row_pieces : FnScope ["kind", "offset", "row"] ["kind", "offset", "row"] (defScope st_row_pieces) := ⟨rfl, rfl, rfl, by decide +kernel, rfl, by decide +kernel, by decide +kernel⟩
theorem ok_row_pieces {cl_InvalidKind cl_InvalidOffset cl_InvalidRow : Addr} (F : Df K mg "row_pieces" st_row_pieces ["kind", "offset", "row"]) (g_need_kind : Ok P w K mg base 3 "need_kind" ["value"] (s_need_kind cl_InvalidKind)) (g_need_offset : Ok P w K mg base 2 "need_offset" ["kind", "value"] (s_need_offset cl_InvalidOffset)) (g_need_row : Ok P w K mg base 3 "need_row" ["kind", "value"] (s_need_row cl_InvalidRow)) (g_pieces_of : Ok P w K mg base 3 "pieces_of" ["kind", "offset", "row"] s_pieces_of) : Ok P w K mg base 4 "row_pieces" ["kind", "offset", "row"] (s_row_pieces cl_InvalidKind cl_InvalidOffset cl_InvalidRow) := by
  refine ok_of F sc_row_pieces (by decide) (by rintro _ _ _ ⟨kd, od, bd, rfl, _⟩; rfl) ?_
  rintro f cdv A outer s H E _ k ex hr ⟨kd, od, bd, rfl, hx, hr1⟩
  show Pss _ [.d kd, .d od, .d bd] _ _
  refine Tl.pss_cons ?_
  refine Tl.ps_expr ?_
  refine Tl.pe_call g_need_kind hr (by decide) ?_
  refine Tl.pa_cons ?_
  refine Tl.pe_nm 0 rfl ?_
  refine Tl.pa_nil ?_
  refine ⟨_, rfl, fun g1 => ?_, hx⟩
  obtain ⟨t, j, rfl, hK⟩ := isKindD_iff.mp g1
  obtain ⟨hx2, hr2⟩ := hr1 t j rfl hK
  refine Tl.pss_cons ?_
  refine Tl.ps_expr ?_
  refine Tl.pe_call g_need_offset hr (by decide) ?_
  refine Tl.pa_cons ?_
  refine Tl.pe_nm 0 rfl ?_
  refine Tl.pa_cons ?_
  refine Tl.pe_nm 1 rfl ?_
  refine Tl.pa_nil ?_
  refine ⟨t, j, _, rfl, fun g2 => ?_, hx2⟩
  obtain ⟨o, rfl, ho1, ho2⟩ := isIntD_iff.mp g2
  obtain ⟨hx3, hr3⟩ := hr2 o rfl ho1 ho2
  refine Tl.pss_cons ?_
  refine Tl.ps_expr ?_
  refine Tl.pe_call g_need_row hr (by decide) ?_
  refine Tl.pa_cons ?_
  refine Tl.pe_nm 0 rfl ?_
  refine Tl.pa_cons ?_
  refine Tl.pe_nm 2 rfl ?_
  refine Tl.pa_nil ?_
  refine ⟨t, j, _, rfl, fun g3 => ?_, hx3⟩
  obtain ⟨s, e, rfl, hp⟩ := isRowD_iff.mp g3
  refine Tl.pss_one ?_
  refine Tl.ps_ret ?_
  refine Tl.pe_call g_pieces_of hr (by decide) ?_
  refine Tl.pa_cons ?_
  refine Tl.pe_nm 0 rfl ?_
  refine Tl.pa_cons ?_
  refine Tl.pe_nm 1 rfl ?_
  refine Tl.pa_cons ?_
  refine Tl.pe_nm 2 rfl ?_
  refine Tl.pa_nil ?_
  refine ⟨_, _, _, _, _, rfl, hK, ?_⟩
  exact hr3 s e rfl hp

abbrev st_narrowest : Stmt := topS 32
theorem sc_narrowest : FnScope ["kind", "offset", "borders", "border"] ["kind", "offset", "borders"] (defScope st_narrowest) := ⟨rfl, rfl, rfl, by decide +kernel, rfl, by decide +kernel, by decide +kernel⟩
theorem ok_narrowest (F : Df K mg "narrowest" st_narrowest ["kind", "offset", "borders"]) (m_min : mg "min" = none) (g_width_of : Ok P w K mg base 2 "width_of" ["kind", "offset", "border"] s_width_of) : Ok P w K mg base 3 "narrowest" ["kind", "offset", "borders"] s_narrowest := by
  refine ok_of F sc_narrowest (by decide) (by rintro _ _ _ ⟨t, j, o, ds, rfl, _⟩; rfl) ?_
  rintro f cdv A outer s H E _ k ex hr ⟨t, j, o, ds, rfl, hK, hB, hl, hk⟩
  show Pss _ [.d (kD t j), .d (.int o), .d (.tuple ds), .un] _ _
  have hK1 := hK.t1; have hK2 := hK.t2; have hK3 := hK.j1; have hK4 := hK.j2
  refine Tl.pss_one ?_
  refine Tl.ps_ret ?_
  refine Tl.pe_minL rfl m_min ?_
  refine Tl.pe_cat ?_
  refine Tl.pe_lc (own := [("border", 3)]) (.nm 3) rfl sc_narrowest.nd (show BlkOk ["kind", "offset", "borders", "border"] (defScope st_narrowest) _ _ from blkOk_by (by decide +kernel)) (by decide) (fun _ _ _ _ _ => pg_name (i := 3) sc_narrowest.nd rfl (by first | exact Or.inl rfl | exact Or.inr rfl)) ?_
  refine Tl.lc_mp (fun d => .int (wz t j o d)) ?_
  refine Tl.pi_t ?_
  refine Tl.pe_nm 2 rfl ?_
  refine ⟨_, rfl, ?_⟩
  refine ⟨(by first | decide | (simp; done) | (simp; omega) | omega), ?_, ?_⟩
  · skip
    intro d hd
    obtain ⟨p, rt, rfl, hp⟩ := hB d hd
    refine ⟨_, rfl, rfl, fun _ _ _ _ _ => ?_⟩
    refine Tl.pe_orI ?_
    refine Tl.pe_call g_width_of hr (by decide) ?_
    refine Tl.pa_cons ?_
    refine Tl.pe_nm 0 rfl ?_
    refine Tl.pa_cons ?_
    refine Tl.pe_nm 1 rfl ?_
    refine Tl.pa_cons ?_
    refine Tl.pe_nm 3 rfl ?_
    refine Tl.pa_nil ?_
    refine ⟨_, _, _, _, _, rfl, by omega, ?_⟩
    refine ⟨_, rfl, ?_⟩
    refine ite2 (fun h1 => ?_) (fun h1 => ?_)
    · skip
      refine Tl.pe_at ?_
      refine Tl.pe_nm 0 rfl ?_
      refine ⟨_, _, rfl, rfl, ?_⟩
      exact congrArg PyData.int (by rw [wz_bD]; simp_all)
    · skip
      exact congrArg PyData.int (by rw [wz_bD]; simp_all)
  refine Tl.pe_ls ?_
  refine Tl.pa_cons ?_
  refine Tl.pe_at ?_
  refine Tl.pe_nm 0 rfl ?_
  refine ⟨_, _, rfl, rfl, ?_⟩
  refine Tl.pa_nil ?_
  refine ⟨[_], rfl, (by first | decide | (simp; done)), ?_⟩
  refine ⟨_, _, rfl, rfl, (by simp only [List.length_map, List.length_cons, List.length_nil]; omega), ?_⟩
  refine ⟨ds.map (wz t j o) ++ [t], (by rw [List.map_append, List.map_map]; rfl), (by simp), fun m hm1 hm2 => ?_⟩
  exact (nar_min hm1 hm2) ▸ hk

abbrev st_good_of : Stmt := topS 33
theorem sc_good_of : FnScope ["kind", "borders", "least", "offset"] ["kind", "borders", "least"] (defScope st_good_of) := ⟨rfl, rfl, rfl, by decide +kernel, rfl, by decide +kernel, by decide +kernel⟩
theorem ok_good_of (F : Df K mg "good_of" st_good_of ["kind", "borders", "least"]) (m_range : mg "range" = none) (g_step_of : Ok P w K mg base 1 "step_of" ["kind"] s_step_of) (g_narrowest : Ok P w K mg base 3 "narrowest" ["kind", "offset", "borders"] s_narrowest) : Ok P w K mg base 4 "good_of" ["kind", "borders", "least"] s_good_of := by
  refine ok_of F sc_good_of (by decide) (by rintro _ _ _ ⟨t, j, ds, l, rfl, _⟩; rfl) ?_
  rintro f cdv A outer s H E _ k ex hr ⟨t, j, ds, l, rfl, hK, hB, hl, hk⟩
  show Pss _ [.d (kD t j), .d (.tuple ds), .d (.int l), .un] _ _
  have hK1 := hK.t1; have hK2 := hK.t2; have hK3 := hK.j1; have hK4 := hK.j2
  refine Tl.pss_one ?_
  refine Tl.ps_ret ?_
  refine Tl.pe_lc (own := [("offset", 3)]) (.nm 3) rfl sc_good_of.nd (show BlkOk ["kind", "borders", "least", "offset"] (defScope st_good_of) _ _ from blkOk_by (by decide +kernel)) (by decide) (fun _ _ _ _ _ => pg_name (i := 3) sc_good_of.nd rfl (by first | exact Or.inl rfl | exact Or.inr rfl)) ?_
  refine Tl.lc_fm (fun d => d) (fun d => match d with | .int o => decide (l ≤ nar t j o ds) | _ => false) ?_
  refine Tl.pi_r1 m_range ?_
  refine Tl.pe_call g_step_of hr (by decide) ?_
  refine Tl.pa_cons ?_
  refine Tl.pe_nm 0 rfl ?_
  refine Tl.pa_nil ?_
  refine ⟨_, _, rfl, ?_⟩
  refine ⟨_, rfl, ⟨by omega, by omega⟩, ?_⟩
  refine ⟨(by rw [rngD_length]; omega), ?_, ?_⟩
  · skip
    intro d hd
    obtain ⟨i, hi, rfl⟩ := rngD_mem hd
    refine ⟨_, rfl, rfl, fun _ _ _ _ _ => ?_, fun hp _ _ _ _ _ => ?_⟩
    · skip
      refine Tl.pts_1 ?_
      refine Tl.pt_ge ?_
      refine Tl.pe_call g_narrowest hr (by decide) ?_
      refine Tl.pa_cons ?_
      refine Tl.pe_nm 0 rfl ?_
      refine Tl.pa_cons ?_
      refine Tl.pe_nm 3 rfl ?_
      refine Tl.pa_cons ?_
      refine Tl.pe_nm 1 rfl ?_
      refine Tl.pa_nil ?_
      refine ⟨_, _, _, _, rfl, hK, ‹_›, by omega, ?_⟩
      refine Tl.pe_nm 2 rfl ?_
      refine ⟨_, _, rfl, rfl, ?_⟩
      rfl
    · skip
      refine Tl.pe_nm 3 rfl ?_
      rfl
  exact (congrArg k (good_list t j ds l)).mpr hk

abbrev st_widest_of : Stmt := topS 34
theorem sc_widest_of : FnScope ["kind", "borders", "offset"] ["kind", "borders"] (defScope st_widest_of) := ⟨rfl, rfl, rfl, by decide +kernel, rfl, by decide +kernel, by decide +kernel⟩
theorem ok_widest_of (F : Df K mg "widest_of" st_widest_of ["kind", "borders"]) (m_max : mg "max" = none) (m_range : mg "range" = none) (g_step_of : Ok P w K mg base 1 "step_of" ["kind"] s_step_of) (g_narrowest : Ok P w K mg base 3 "narrowest" ["kind", "offset", "borders"] s_narrowest) : Ok P w K mg base 4 "widest_of" ["kind", "borders"] s_widest_of := by
  refine ok_of F sc_widest_of (by decide) (by rintro _ _ _ ⟨t, j, ds, rfl, _⟩; rfl) ?_
  rintro f cdv A outer s H E _ k ex hr ⟨t, j, ds, rfl, hK, hB, hl, hk⟩
  show Pss _ [.d (kD t j), .d (.tuple ds), .un] _ _
  have hK1 := hK.t1; have hK2 := hK.t2; have hK3 := hK.j1; have hK4 := hK.j2
  refine Tl.pss_one ?_
  refine Tl.ps_ret ?_
  refine Tl.pe_maxL rfl m_max ?_
  refine Tl.pe_lc (own := [("offset", 2)]) (.nm 2) rfl sc_widest_of.nd (show BlkOk ["kind", "borders", "offset"] (defScope st_widest_of) _ _ from blkOk_by (by decide +kernel)) (by decide) (fun _ _ _ _ _ => pg_name (i := 2) sc_widest_of.nd rfl (by first | exact Or.inl rfl | exact Or.inr rfl)) ?_
  refine Tl.lc_mp (fun d => match d with | .int o => .int (nar t j o ds) | _ => .none) ?_
  refine Tl.pi_r1 m_range ?_
  refine Tl.pe_call g_step_of hr (by decide) ?_
  refine Tl.pa_cons ?_
  refine Tl.pe_nm 0 rfl ?_
  refine Tl.pa_nil ?_
  refine ⟨_, _, rfl, ?_⟩
  refine ⟨_, rfl, ⟨by omega, by omega⟩, ?_⟩
  refine ⟨(by rw [rngD_length]; omega), ?_, ?_⟩
  · skip
    intro d hd
    obtain ⟨i, hi, rfl⟩ := rngD_mem hd
    refine ⟨_, rfl, rfl, fun _ _ _ _ _ => ?_⟩
    refine Tl.pe_call g_narrowest hr (by decide) ?_
    refine Tl.pa_cons ?_
    refine Tl.pe_nm 0 rfl ?_
    refine Tl.pa_cons ?_
    refine Tl.pe_nm 2 rfl ?_
    refine Tl.pa_cons ?_
    refine Tl.pe_nm 1 rfl ?_
    refine Tl.pa_nil ?_
    refine ⟨_, _, _, _, rfl, hK, ‹_›, by omega, ?_⟩
    rfl
  refine ⟨(List.range (t + j).toNat).map (fun i : Nat => nar t j (0 + (i : Nat)) ds), congrArg PyData.list (rngD_map 0 _ _ (fun i => nar t j i ds) fun _ => rfl), (by intro z; have := congrArg List.length z; simp at this; omega), fun m hm1 hm2 => ?_⟩
  exact (widest_is (by omega) (by omega) hB hm1 hm2) ▸ hk

abbrev st_widest_least : Stmt := topS 35
theorem sc_widest_least : FnScope ["kind", "borders"] ["kind", "borders"] (defScope st_widest_least) := ⟨rfl, rfl, rfl, by decide +kernel, rfl, by decide +kernel, by decide +kernel⟩
theorem ok_widest_least {cl_InvalidBorder cl_InvalidKind : Addr} (F : Df K mg "widest_least" st_widest_least ["kind", "borders"]) (g_need_kind : Ok P w K mg base 3 "need_kind" ["value"] (s_need_kind cl_InvalidKind)) (g_need_borders : Ok P w K mg base 3 "need_borders" ["value"] (s_need_borders cl_InvalidBorder)) (g_widest_of : Ok P w K mg base 4 "widest_of" ["kind", "borders"] s_widest_of) : Ok P w K mg base 5 "widest_least" ["kind", "borders"] (s_widest_least cl_InvalidKind cl_InvalidBorder) := by
  refine ok_of F sc_widest_least (by decide) (by rintro _ _ _ ⟨kd, bd, rfl, _⟩; rfl) ?_
  rintro f cdv A outer s H E _ k ex hr ⟨kd, bd, rfl, hx, hr1⟩
  show Pss _ [.d kd, .d bd] _ _
  refine Tl.pss_cons ?_
  refine Tl.ps_expr ?_
  refine Tl.pe_call g_need_kind hr (by decide) ?_
  refine Tl.pa_cons ?_
  refine Tl.pe_nm 0 rfl ?_
  refine Tl.pa_nil ?_
  refine ⟨_, rfl, fun g1 => ?_, hx⟩
  obtain ⟨t, j, rfl, hK⟩ := isKindD_iff.mp g1
  obtain ⟨hx2, hr2⟩ := hr1 t j rfl hK
  have hK1 := hK.t1; have hK2 := hK.t2; have hK3 := hK.j1; have hK4 := hK.j2
  refine Tl.pss_cons ?_
  refine Tl.ps_expr ?_
  refine Tl.pe_call g_need_borders hr (by decide) ?_
  refine Tl.pa_cons ?_
  refine Tl.pe_nm 1 rfl ?_
  refine Tl.pa_nil ?_
  refine ⟨_, rfl, fun g2 => ?_, hx2⟩
  obtain ⟨ds, rfl, hB⟩ := isBordersD_iff.mp g2
  have hB1 := hB.lo; have hB2 := hB.hi; have hB3 := hB.all
  refine Tl.pss_one ?_
  refine Tl.ps_ret ?_
  refine Tl.pe_call g_widest_of hr (by decide) ?_
  refine Tl.pa_cons ?_
  refine Tl.pe_nm 0 rfl ?_
  refine Tl.pa_cons ?_
  refine Tl.pe_nm 1 rfl ?_
  refine Tl.pa_nil ?_
  refine ⟨_, _, _, rfl, hK, ‹_›, by omega, ?_⟩
  exact hr2 ds rfl hB

abbrev st_best_offsets : Stmt := topS 36
theorem sc_best_offsets : FnScope ["kind", "borders"] ["kind", "borders"] (defScope st_best_offsets) := ⟨rfl, rfl, rfl, by decide +kernel, rfl, by decide +kernel, by decide +kernel⟩
theorem ok_best_offsets {cl_InvalidBorder cl_InvalidKind : Addr} (F : Df K mg "best_offsets" st_best_offsets ["kind", "borders"]) (g_need_kind : Ok P w K mg base 3 "need_kind" ["value"] (s_need_kind cl_InvalidKind)) (g_need_borders : Ok P w K mg base 3 "need_borders" ["value"] (s_need_borders cl_InvalidBorder)) (g_good_of : Ok P w K mg base 4 "good_of" ["kind", "borders", "least"] s_good_of) (g_widest_of : Ok P w K mg base 4 "widest_of" ["kind", "borders"] s_widest_of) : Ok P w K mg base 5 "best_offsets" ["kind", "borders"] (s_best_offsets cl_InvalidKind cl_InvalidBorder) := by
  refine ok_of F sc_best_offsets (by decide) (by rintro _ _ _ ⟨kd, bd, rfl, _⟩; rfl) ?_
  rintro f cdv A outer s H E _ k ex hr ⟨kd, bd, rfl, hx, hr1⟩
  show Pss _ [.d kd, .d bd] _ _
  refine Tl.pss_cons ?_
  refine Tl.ps_expr ?_
  refine Tl.pe_call g_need_kind hr (by decide) ?_
  refine Tl.pa_cons ?_
  refine Tl.pe_nm 0 rfl ?_
  refine Tl.pa_nil ?_
  refine ⟨_, rfl, fun g1 => ?_, hx⟩
  obtain ⟨t, j, rfl, hK⟩ := isKindD_iff.mp g1
  obtain ⟨hx2, hr2⟩ := hr1 t j rfl hK
  have hK1 := hK.t1; have hK2 := hK.t2; have hK3 := hK.j1; have hK4 := hK.j2
  refine Tl.pss_cons ?_
  refine Tl.ps_expr ?_
  refine Tl.pe_call g_need_borders hr (by decide) ?_
  refine Tl.pa_cons ?_
  refine Tl.pe_nm 1 rfl ?_
  refine Tl.pa_nil ?_
  refine ⟨_, rfl, fun g2 => ?_, hx2⟩
  obtain ⟨ds, rfl, hB⟩ := isBordersD_iff.mp g2
  have hB1 := hB.lo; have hB2 := hB.hi; have hB3 := hB.all
  refine Tl.pss_one ?_
  refine Tl.ps_ret ?_
  refine Tl.pe_call g_good_of hr (by decide) ?_
  refine Tl.pa_cons ?_
  refine Tl.pe_nm 0 rfl ?_
  refine Tl.pa_cons ?_
  refine Tl.pe_nm 1 rfl ?_
  refine Tl.pa_cons ?_
  refine Tl.pe_call g_widest_of hr (by decide) ?_
  refine Tl.pa_cons ?_
  refine Tl.pe_nm 0 rfl ?_
  refine Tl.pa_cons ?_
  refine Tl.pe_nm 1 rfl ?_
  refine Tl.pa_nil ?_
  refine ⟨_, _, _, rfl, hK, ‹_›, by omega, ?_⟩
  refine Tl.pa_nil ?_
  refine ⟨_, _, _, _, rfl, hK, ‹_›, by omega, ?_⟩
  exact hr2 ds rfl hB

abbrev st_uncut_offsets : Stmt := topS 37
theorem sc_uncut_offsets : FnScope ["kind", "borders"] ["kind", "borders"] (defScope st_uncut_offsets) := ⟨rfl, rfl, rfl, by decide +kernel, rfl, by decide +kernel, by decide +kernel⟩
theorem ok_uncut_offsets {cl_InvalidBorder cl_InvalidKind : Addr} (F : Df K mg "uncut_offsets" st_uncut_offsets ["kind", "borders"]) (g_need_kind : Ok P w K mg base 3 "need_kind" ["value"] (s_need_kind cl_InvalidKind)) (g_need_borders : Ok P w K mg base 3 "need_borders" ["value"] (s_need_borders cl_InvalidBorder)) (g_good_of : Ok P w K mg base 4 "good_of" ["kind", "borders", "least"] s_good_of) : Ok P w K mg base 5 "uncut_offsets" ["kind", "borders"] (s_uncut_offsets cl_InvalidKind cl_InvalidBorder) := by
  refine ok_of F sc_uncut_offsets (by decide) (by rintro _ _ _ ⟨kd, bd, rfl, _⟩; rfl) ?_
  rintro f cdv A outer s H E _ k ex hr ⟨kd, bd, rfl, hx, hr1⟩
  show Pss _ [.d kd, .d bd] _ _
  refine Tl.pss_cons ?_
  refine Tl.ps_expr ?_
  refine Tl.pe_call g_need_kind hr (by decide) ?_
  refine Tl.pa_cons ?_
  refine Tl.pe_nm 0 rfl ?_
  refine Tl.pa_nil ?_
  refine ⟨_, rfl, fun g1 => ?_, hx⟩
  obtain ⟨t, j, rfl, hK⟩ := isKindD_iff.mp g1
  obtain ⟨hx2, hr2⟩ := hr1 t j rfl hK
  have hK1 := hK.t1; have hK2 := hK.t2; have hK3 := hK.j1; have hK4 := hK.j2
  refine Tl.pss_cons ?_
  refine Tl.ps_expr ?_
  refine Tl.pe_call g_need_borders hr (by decide) ?_
  refine Tl.pa_cons ?_
  refine Tl.pe_nm 1 rfl ?_
  refine Tl.pa_nil ?_
  refine ⟨_, rfl, fun g2 => ?_, hx2⟩
  obtain ⟨ds, rfl, hB⟩ := isBordersD_iff.mp g2
  have hB1 := hB.lo; have hB2 := hB.hi; have hB3 := hB.all
  refine Tl.pss_one ?_
  refine Tl.ps_ret ?_
  refine Tl.pe_call g_good_of hr (by decide) ?_
  refine Tl.pa_cons ?_
  refine Tl.pe_nm 0 rfl ?_
  refine Tl.pa_cons ?_
  refine Tl.pe_nm 1 rfl ?_
  refine Tl.pa_cons ?_
  refine Tl.pe_at ?_
  refine Tl.pe_nm 0 rfl ?_
  refine ⟨_, _, rfl, rfl, ?_⟩
  refine Tl.pa_nil ?_
  refine ⟨_, _, _, _, rfl, hK, ‹_›, by omega, ?_⟩
  exact hr2 ds rfl hB

abbrev st_even_offsets : Stmt := topS 38
theorem sc_even_offsets : FnScope ["kind", "row", "one", "other", "offset"] ["kind", "row"] (defScope st_even_offsets) := ⟨rfl, rfl, rfl, by decide +kernel, rfl, by decide +kernel, by decide +kernel⟩
theorem ok_even_offsets {cl_InvalidKind cl_InvalidRow : Addr} (F : Df K mg "even_offsets" st_even_offsets ["kind", "row"]) (m_range : mg "range" = none) (g_need_kind : Ok P w K mg base 3 "need_kind" ["value"] (s_need_kind cl_InvalidKind)) (g_need_row : Ok P w K mg base 3 "need_row" ["kind", "value"] (s_need_row cl_InvalidRow)) (g_step_of : Ok P w K mg base 1 "step_of" ["kind"] s_step_of) (g_width_of : Ok P w K mg base 2 "width_of" ["kind", "offset", "border"] s_width_of) : Ok P w K mg base 4 "even_offsets" ["kind", "row"] (s_even_offsets cl_InvalidKind cl_InvalidRow) := by
  refine ok_of F sc_even_offsets (by decide) (by rintro _ _ _ ⟨kd, rd, rfl, _⟩; rfl) ?_
  rintro f cdv A outer s H E _ k ex hr ⟨kd, rd, rfl, hx, hr1⟩
  show Pss _ [.d kd, .d rd, .un, .un, .un] _ _
  refine Tl.pss_cons ?_
  refine Tl.ps_expr ?_
  refine Tl.pe_call g_need_kind hr (by decide) ?_
  refine Tl.pa_cons ?_
  refine Tl.pe_nm 0 rfl ?_
  refine Tl.pa_nil ?_
  refine ⟨_, rfl, fun g1 => ?_, hx⟩
  obtain ⟨t, j, rfl, hK⟩ := isKindD_iff.mp g1
  obtain ⟨hx2, hr2⟩ := hr1 t j rfl hK
  have hK1 := hK.t1; have hK2 := hK.t2; have hK3 := hK.j1; have hK4 := hK.j2
  refine Tl.pss_cons ?_
  refine Tl.ps_expr ?_
  refine Tl.pe_call g_need_row hr (by decide) ?_
  refine Tl.pa_cons ?_
  refine Tl.pe_nm 0 rfl ?_
  refine Tl.pa_cons ?_
  refine Tl.pe_nm 1 rfl ?_
  refine Tl.pa_nil ?_
  refine ⟨t, j, _, rfl, fun g2 => ?_, hx2⟩
  obtain ⟨s, e, rfl, hR⟩ := isRowD_iff.mp g2
  refine Tl.pss_cons ?_
  refine @Tl.ps_unp _ _ _ _ _ _ [2, 3] (pg_tup rfl (pgs_cons (pg_name (i := 2) sc_even_offsets.nd rfl (by first | exact Or.inl rfl | exact Or.inr rfl)) (pgs_cons (pg_name (i := 3) sc_even_offsets.nd rfl (by first | exact Or.inl rfl | exact Or.inr rfl)) pgs_nil))) ?_ rfl rfl rfl
  refine Tl.pe_tp ?_
  refine Tl.pa_cons ?_
  refine Tl.pe_tp ?_
  refine Tl.pa_cons ?_
  refine Tl.pe_at ?_
  refine Tl.pe_nm 1 rfl ?_
  refine ⟨_, _, rfl, rfl, ?_⟩
  refine Tl.pa_cons ?_
  refine Tl.pe_s ?_
  refine Tl.pa_nil ?_
  refine ⟨[_, _], rfl, (by first | decide | (simp; done)), ?_⟩
  refine Tl.pa_cons ?_
  refine Tl.pe_tp ?_
  refine Tl.pa_cons ?_
  refine Tl.pe_at ?_
  refine Tl.pe_nm 1 rfl ?_
  refine ⟨_, _, rfl, rfl, ?_⟩
  refine Tl.pa_cons ?_
  refine Tl.pe_s ?_
  refine Tl.pa_nil ?_
  refine ⟨[_, _], rfl, (by first | decide | (simp; done)), ?_⟩
  refine Tl.pa_nil ?_
  refine ⟨[_, _], rfl, (by first | decide | (simp; done)), ?_⟩
  refine ⟨_, rfl, ?_⟩
  refine Tl.pss_one ?_
  refine Tl.ps_ret ?_
  refine Tl.pe_lc (own := [("offset", 4)]) (.nm 4) rfl sc_even_offsets.nd (show BlkOk ["kind", "row", "one", "other", "offset"] (defScope st_even_offsets) _ _ from blkOk_by (by decide +kernel)) (by decide) (fun _ _ _ _ _ => pg_name (i := 4) sc_even_offsets.nd rfl (by first | exact Or.inl rfl | exact Or.inr rfl)) ?_
  refine Tl.lc_fm (fun d => d) (fun d => match d with | .int o => decide (width t j o s true = width t j o e false) | _ => false) ?_
  refine Tl.pi_r1 m_range ?_
  refine Tl.pe_call g_step_of hr (by decide) ?_
  refine Tl.pa_cons ?_
  refine Tl.pe_nm 0 rfl ?_
  refine Tl.pa_nil ?_
  refine ⟨_, _, rfl, ?_⟩
  refine ⟨_, rfl, ⟨by omega, by omega⟩, ?_⟩
  refine ⟨(by rw [rngD_length]; omega), ?_, ?_⟩
  · skip
    intro d hd
    obtain ⟨i, hi, rfl⟩ := rngD_mem hd
    refine ⟨_, rfl, rfl, fun _ _ _ _ _ => ?_, fun hp _ _ _ _ _ => ?_⟩
    · skip
      refine Tl.pts_1 ?_
      refine Tl.pt_eq hr.units ?_
      refine Tl.pe_call g_width_of hr (by decide) ?_
      refine Tl.pa_cons ?_
      refine Tl.pe_nm 0 rfl ?_
      refine Tl.pa_cons ?_
      refine Tl.pe_nm 4 rfl ?_
      refine Tl.pa_cons ?_
      refine Tl.pe_nm 2 rfl ?_
      refine Tl.pa_nil ?_
      refine ⟨_, _, _, _, true, rfl, by omega, ?_⟩
      refine Tl.pe_call g_width_of hr (by decide) ?_
      refine Tl.pa_cons ?_
      refine Tl.pe_nm 0 rfl ?_
      refine Tl.pa_cons ?_
      refine Tl.pe_nm 4 rfl ?_
      refine Tl.pa_cons ?_
      refine Tl.pe_nm 3 rfl ?_
      refine Tl.pa_nil ?_
      refine ⟨_, _, _, _, false, rfl, by omega, ?_⟩
      refine ⟨(by first | rfl | assumption | exact ints_shaped _ | exact shaped_side _ | decide +kernel), (by first | rfl | assumption | exact ints_shaped _ | exact shaped_side _ | decide +kernel), ?_⟩
      exact eqv_int _ _
    · skip
      refine Tl.pe_nm 4 rfl ?_
      rfl
  exact (congrArg k (evn_list t j s e)).mpr (hr2 s e rfl hR)

abbrev st_need_shifts : Stmt := topS 40
theorem sc_need_shifts : FnScope ["kind", "value"] ["kind", "value"] (defScope st_need_shifts) := ⟨rfl, rfl, rfl, by decide +kernel, rfl, by decide +kernel, by decide +kernel⟩
theorem ok_need_shifts {cl_InvalidNumber : Addr} (F : Df K mg "need_shifts" st_need_shifts ["kind", "value"]) (g_is_integer : Ok P w K mg base 1 "is_integer" ["value", "low", "high"] s_is_integer) (g_step_of : Ok P w K mg base 1 "step_of" ["kind"] s_step_of) (x_InvalidNumber : XF K mg "InvalidNumber" cl_InvalidNumber) : Ok P w K mg base 2 "need_shifts" ["kind", "value"] (s_need_shifts cl_InvalidNumber) := by
  refine ok_of F sc_need_shifts (by decide) (by rintro _ _ _ ⟨t, j, v, rfl, _⟩; rfl) ?_
  rintro f cdv A outer s H E _ k ex hr ⟨t, j, v, rfl, hk, hx⟩
  show Pss _ [.d (kD t j), .d v] _ _
  refine Tl.pss_cons ?_
  refine Tl.ps_if ?_
  refine Tl.pt_w ?_
  refine Tl.pw_or ?_
  refine Tl.pt_not ?_
  refine Tl.pt_e ?_
  refine Tl.pe_call g_is_integer hr (by decide) ?_
  refine Tl.pa_cons ?_
  refine Tl.pe_nm 1 rfl ?_
  refine Tl.pa_cons ?_
  refine Tl.pe_i ?_
  refine Tl.pa_cons ?_
  refine Tl.pe_i ?_
  refine Tl.pa_nil ?_
  refine ⟨_, _, _, rfl, ?_⟩
  refine ⟨_, rfl, ?_⟩
  refine iteB (fun h1 => ?_) (fun h1 => ?_)
  · skip
    try simp only [eqv_int, eqv_side, eqv_sideL, Bool.not_eq_true, Bool.not_eq_false, decide_eq_true_eq, decide_eq_false_iff_not, Bool.not_eq_true', Bool.not_eq_false'] at h1
    refine iteYes ?_
    refine Tl.pss_cons ?_
    refine Tl.ps_raise rfl PySem.F.excBase_ValueError x_InvalidNumber.exc x_InvalidNumber.glob x_InvalidNumber.kp (raises_own x_InvalidNumber.base x_InvalidNumber.typ) rfl ?_
    exact hx (by first | (cases v <;> simp_all [isShiftD, isIntD] <;> omega) | (simp_all [isShiftD]; done))
  · skip
    try simp only [eqv_int, eqv_side, eqv_sideL, Bool.not_eq_true, Bool.not_eq_false, decide_eq_true_eq, decide_eq_false_iff_not, Bool.not_eq_true', Bool.not_eq_false'] at h1
    obtain ⟨n, rfl, hn1, hn2⟩ := isIntD_iff.mp ‹isIntD v 1 6 = true›
    refine Tl.pw_or1 ?_
    refine Tl.pt_ne hr.units ?_
    refine Tl.pe_mod ?_
    refine Tl.pe_call g_step_of hr (by decide) ?_
    refine Tl.pa_cons ?_
    refine Tl.pe_nm 0 rfl ?_
    refine Tl.pa_nil ?_
    refine ⟨_, _, rfl, ?_⟩
    refine Tl.pe_nm 1 rfl ?_
    refine ⟨_, _, rfl, rfl, (by omega), ?_⟩
    refine Tl.pe_i ?_
    refine ⟨(by first | rfl | assumption | exact ints_shaped _ | exact shaped_side _ | decide +kernel), (by first | rfl | assumption | exact ints_shaped _ | exact shaped_side _ | decide +kernel), ?_⟩
    refine iteB (fun h2 => ?_) (fun h2 => ?_)
    · skip
      try simp only [eqv_int, eqv_side, eqv_sideL, Bool.not_eq_true, Bool.not_eq_false, decide_eq_true_eq, decide_eq_false_iff_not, Bool.not_eq_true', Bool.not_eq_false'] at h2
      refine Tl.pss_cons ?_
      refine Tl.ps_raise rfl PySem.F.excBase_ValueError x_InvalidNumber.exc x_InvalidNumber.glob x_InvalidNumber.kp (raises_own x_InvalidNumber.base x_InvalidNumber.typ) rfl ?_
      exact hx (by first | (cases v <;> simp_all [isShiftD, isIntD] <;> omega) | (simp_all [isShiftD]; done))
    · skip
      try simp only [eqv_int, eqv_side, eqv_sideL, Bool.not_eq_true, Bool.not_eq_false, decide_eq_true_eq, decide_eq_false_iff_not, Bool.not_eq_true', Bool.not_eq_false'] at h2
      refine Tl.pss_nil ?_
      refine Tl.pss_nil ?_
      exact hk (by simp_all [isShiftD])

abbrev st_narrowest_of : Stmt := topS 41
theorem sc_narrowest_of : FnScope ["kind", "offset", "borders", "shifts", "step", "turn"] ["kind", "offset", "borders", "shifts"] (defScope st_narrowest_of) := ⟨rfl, rfl, rfl, by decide +kernel, rfl, by decide +kernel, by decide +kernel⟩
theorem ok_narrowest_of (F : Df K mg "narrowest_of" st_narrowest_of ["kind", "offset", "borders", "shifts"]) (m_min : mg "min" = none) (m_range : mg "range" = none) (g_step_of : Ok P w K mg base 1 "step_of" ["kind"] s_step_of) (g_narrowest : Ok P w K mg base 3 "narrowest" ["kind", "offset", "borders"] s_narrowest) : Ok P w K mg base 4 "narrowest_of" ["kind", "offset", "borders", "shifts"] s_narrowest_of := by
  refine ok_of F sc_narrowest_of (by decide) (by rintro _ _ _ ⟨t, j, o, ds, n, rfl, _⟩; rfl) ?_
  rintro f cdv A outer s H E _ k ex hr ⟨t, j, o, ds, n, rfl, hK, hB, hl, hn, hk⟩
  show Pss _ [.d (kD t j), .d (.int o), .d (.tuple ds), .d (.int n), .un, .un] _ _
  have hK1 := hK.t1; have hK2 := hK.t2; have hK3 := hK.j1; have hK4 := hK.j2
  refine Tl.pss_cons ?_
  refine Tl.ps_as 4 sc_narrowest_of.nd ?_
  refine Tl.pe_call g_step_of hr (by decide) ?_
  refine Tl.pa_cons ?_
  refine Tl.pe_nm 0 rfl ?_
  refine Tl.pa_nil ?_
  refine ⟨_, _, rfl, ?_⟩
  refine Tl.pss_one ?_
  refine Tl.ps_ret ?_
  refine Tl.pe_minL rfl m_min ?_
  refine Tl.pe_lc (own := [("turn", 5)]) (.nm 5) rfl sc_narrowest_of.nd (show BlkOk ["kind", "offset", "borders", "shifts", "step", "turn"] (defScope st_narrowest_of) _ _ from blkOk_by (by decide +kernel)) (by decide) (fun _ _ _ _ _ => pg_name (i := 5) sc_narrowest_of.nd rfl (by first | exact Or.inl rfl | exact Or.inr rfl)) ?_
  refine Tl.lc_mp (fun d => match d with | .int a => .int (nar t j ((o + a * (t + j) / n) % (t + j)) ds) | _ => .none) ?_
  refine Tl.pi_r1 m_range ?_
  refine Tl.pe_nm 3 rfl ?_
  refine ⟨_, rfl, ⟨by omega, by omega⟩, ?_⟩
  refine ⟨(by rw [rngD_length]; omega), ?_, ?_⟩
  · skip
    intro d hd
    obtain ⟨i, hi, rfl⟩ := rngD_mem hd
    refine ⟨_, rfl, rfl, fun _ _ _ _ _ => ?_⟩
    refine Tl.pe_call g_narrowest hr (by decide) ?_
    refine Tl.pa_cons ?_
    refine Tl.pe_nm 0 rfl ?_
    refine Tl.pa_cons ?_
    refine Tl.pe_mod ?_
    refine Tl.pe_add ?_
    refine Tl.pe_nm 1 rfl ?_
    refine Tl.pe_fdiv ?_
    refine Tl.pe_mul ?_
    refine Tl.pe_nm 5 rfl ?_
    refine Tl.pe_nm 4 rfl ?_
    refine ⟨_, _, rfl, rfl, (by first | exact .inl ⟨by omega, by omega⟩ | exact .inr ⟨by omega, by omega⟩), ?_⟩
    refine Tl.pe_nm 3 rfl ?_
    refine ⟨_, _, rfl, rfl, ⟨by omega, by omega⟩, ?_⟩
    refine ⟨_, _, rfl, rfl, ?_⟩
    refine Tl.pe_nm 4 rfl ?_
    refine ⟨_, _, rfl, rfl, (by omega), ?_⟩
    refine Tl.pa_cons ?_
    refine Tl.pe_nm 2 rfl ?_
    refine Tl.pa_nil ?_
    refine ⟨_, _, _, _, rfl, hK, ‹_›, by omega, ?_⟩
    rfl
  refine ⟨(List.range n.toNat).map (fun i : Nat => nar t j (turnO t j o n i) ds), congrArg PyData.list (by simp only [rngD, List.map_map]; rfl), (by intro z; have := congrArg List.length z; simp at this; omega), fun m hm1 hm2 => ?_⟩
  exact (nars_min hm1 hm2) ▸ hk

abbrev st_good_shifted : Stmt := topS 42
theorem sc_good_shifted : FnScope ["kind", "borders", "least", "shifts", "offset"] ["kind", "borders", "least", "shifts"] (defScope st_good_shifted) := ⟨rfl, rfl, rfl, by decide +kernel, rfl, by decide +kernel, by decide +kernel⟩
theorem ok_good_shifted {cl_InvalidBorder cl_InvalidKind cl_InvalidNumber : Addr} (F : Df K mg "good_shifted" st_good_shifted ["kind", "borders", "least", "shifts"]) (m_range : mg "range" = none) (g_need_kind : Ok P w K mg base 3 "need_kind" ["value"] (s_need_kind cl_InvalidKind)) (g_need_borders : Ok P w K mg base 3 "need_borders" ["value"] (s_need_borders cl_InvalidBorder)) (g_need_number : Ok P w K mg base 2 "need_number" ["value", "low", "high"] (s_need_number cl_InvalidNumber)) (g_need_shifts : Ok P w K mg base 2 "need_shifts" ["kind", "value"] (s_need_shifts cl_InvalidNumber)) (g_step_of : Ok P w K mg base 1 "step_of" ["kind"] s_step_of) (g_narrowest_of : Ok P w K mg base 4 "narrowest_of" ["kind", "offset", "borders", "shifts"] s_narrowest_of) : Ok P w K mg base 5 "good_shifted" ["kind", "borders", "least", "shifts"] (s_good_shifted cl_InvalidKind cl_InvalidBorder cl_InvalidNumber) := by
  refine ok_of F sc_good_shifted (by decide) (by rintro _ _ _ ⟨kd, bd, ld, nd, rfl, _⟩; rfl) ?_
  rintro f cdv A outer s H E _ k ex hr ⟨kd, bd, ld, nd, rfl, hx, hr1⟩
  show Pss _ [.d kd, .d bd, .d ld, .d nd, .un] _ _
  refine Tl.pss_cons ?_
  refine Tl.ps_expr ?_
  refine Tl.pe_call g_need_kind hr (by decide) ?_
  refine Tl.pa_cons ?_
  refine Tl.pe_nm 0 rfl ?_
  refine Tl.pa_nil ?_
  refine ⟨_, rfl, fun g1 => ?_, hx⟩
  obtain ⟨t, j, rfl, hK⟩ := isKindD_iff.mp g1
  obtain ⟨hx2, hr2⟩ := hr1 t j rfl hK
  have hK1 := hK.t1; have hK2 := hK.t2; have hK3 := hK.j1; have hK4 := hK.j2
  refine Tl.pss_cons ?_
  refine Tl.ps_expr ?_
  refine Tl.pe_call g_need_borders hr (by decide) ?_
  refine Tl.pa_cons ?_
  refine Tl.pe_nm 1 rfl ?_
  refine Tl.pa_nil ?_
  refine ⟨_, rfl, fun g2 => ?_, hx2⟩
  obtain ⟨ds, rfl, hB⟩ := isBordersD_iff.mp g2
  have hB1 := hB.lo; have hB2 := hB.hi; have hB3 := hB.all
  obtain ⟨hx3, hr3⟩ := hr2 ds rfl hB
  refine Tl.pss_cons ?_
  refine Tl.ps_expr ?_
  refine Tl.pe_call g_need_number hr (by decide) ?_
  refine Tl.pa_cons ?_
  refine Tl.pe_nm 2 rfl ?_
  refine Tl.pa_cons ?_
  refine Tl.pe_i ?_
  refine Tl.pa_cons ?_
  refine Tl.pe_at ?_
  refine Tl.pe_nm 0 rfl ?_
  refine ⟨_, _, rfl, rfl, ?_⟩
  refine Tl.pa_nil ?_
  refine ⟨_, _, _, rfl, fun g3 => ?_, hx3⟩
  obtain ⟨l, rfl, hl1, hl2⟩ := isIntD_iff.mp g3
  obtain ⟨hx4, hr4⟩ := hr3 l rfl hl1 hl2
  refine Tl.pss_cons ?_
  refine Tl.ps_expr ?_
  refine Tl.pe_call g_need_shifts hr (by decide) ?_
  refine Tl.pa_cons ?_
  refine Tl.pe_nm 0 rfl ?_
  refine Tl.pa_cons ?_
  refine Tl.pe_nm 3 rfl ?_
  refine Tl.pa_nil ?_
  refine ⟨t, j, _, rfl, fun g4 => ?_, hx4⟩
  obtain ⟨n, rfl, ⟨hn1, hn2⟩, hn3⟩ := isShiftD_iff.mp g4
  refine Tl.pss_one ?_
  refine Tl.ps_ret ?_
  refine Tl.pe_lc (own := [("offset", 4)]) (.nm 4) rfl sc_good_shifted.nd (show BlkOk ["kind", "borders", "least", "shifts", "offset"] (defScope st_good_shifted) _ _ from blkOk_by (by decide +kernel)) (by decide) (fun _ _ _ _ _ => pg_name (i := 4) sc_good_shifted.nd rfl (by first | exact Or.inl rfl | exact Or.inr rfl)) ?_
  refine Tl.lc_fm (fun d => d) (fun d => match d with | .int o => decide (l ≤ nars t j o ds n) | _ => false) ?_
  refine Tl.pi_r1 m_range ?_
  refine Tl.pe_call g_step_of hr (by decide) ?_
  refine Tl.pa_cons ?_
  refine Tl.pe_nm 0 rfl ?_
  refine Tl.pa_nil ?_
  refine ⟨_, _, rfl, ?_⟩
  refine ⟨_, rfl, ⟨by omega, by omega⟩, ?_⟩
  refine ⟨(by rw [rngD_length]; omega), ?_, ?_⟩
  · skip
    intro d hd
    obtain ⟨i, hi, rfl⟩ := rngD_mem hd
    refine ⟨_, rfl, rfl, fun _ _ _ _ _ => ?_, fun hp _ _ _ _ _ => ?_⟩
    · skip
      refine Tl.pts_1 ?_
      refine Tl.pt_ge ?_
      refine Tl.pe_call g_narrowest_of hr (by decide) ?_
      refine Tl.pa_cons ?_
      refine Tl.pe_nm 0 rfl ?_
      refine Tl.pa_cons ?_
      refine Tl.pe_nm 4 rfl ?_
      refine Tl.pa_cons ?_
      refine Tl.pe_nm 1 rfl ?_
      refine Tl.pa_cons ?_
      refine Tl.pe_nm 3 rfl ?_
      refine Tl.pa_nil ?_
      refine ⟨_, _, _, _, _, rfl, hK, ‹_›, by omega, ⟨by omega, by omega⟩, ?_⟩
      refine Tl.pe_nm 2 rfl ?_
      refine ⟨_, _, rfl, rfl, ?_⟩
      rfl
    · skip
      refine Tl.pe_nm 4 rfl ?_
      rfl
  exact (congrArg k (goods_list t j ds l n)).mpr (hr4 n rfl hn1 hn2 hn3)

abbrev st_widest_shifted : Stmt := topS 43
theorem sc_widest_shifted : FnScope ["kind", "borders", "shifts", "offset"] ["kind", "borders", "shifts"] (defScope st_widest_shifted) := ⟨rfl, rfl, rfl, by decide +kernel, rfl, by decide +kernel, by decide +kernel⟩
theorem ok_widest_shifted {cl_InvalidBorder cl_InvalidKind cl_InvalidNumber : Addr} (F : Df K mg "widest_shifted" st_widest_shifted ["kind", "borders", "shifts"]) (m_max : mg "max" = none) (m_range : mg "range" = none) (g_need_kind : Ok P w K mg base 3 "need_kind" ["value"] (s_need_kind cl_InvalidKind)) (g_need_borders : Ok P w K mg base 3 "need_borders" ["value"] (s_need_borders cl_InvalidBorder)) (g_need_shifts : Ok P w K mg base 2 "need_shifts" ["kind", "value"] (s_need_shifts cl_InvalidNumber)) (g_step_of : Ok P w K mg base 1 "step_of" ["kind"] s_step_of) (g_narrowest_of : Ok P w K mg base 4 "narrowest_of" ["kind", "offset", "borders", "shifts"] s_narrowest_of) : Ok P w K mg base 5 "widest_shifted" ["kind", "borders", "shifts"] (s_widest_shifted cl_InvalidKind cl_InvalidBorder cl_InvalidNumber) := by
  refine ok_of F sc_widest_shifted (by decide) (by rintro _ _ _ ⟨kd, bd, nd, rfl, _⟩; rfl) ?_
  rintro f cdv A outer s H E _ k ex hr ⟨kd, bd, nd, rfl, hx, hr1⟩
  show Pss _ [.d kd, .d bd, .d nd, .un] _ _
  refine Tl.pss_cons ?_
  refine Tl.ps_expr ?_
  refine Tl.pe_call g_need_kind hr (by decide) ?_
  refine Tl.pa_cons ?_
  refine Tl.pe_nm 0 rfl ?_
  refine Tl.pa_nil ?_
  refine ⟨_, rfl, fun g1 => ?_, hx⟩
  obtain ⟨t, j, rfl, hK⟩ := isKindD_iff.mp g1
  obtain ⟨hx2, hr2⟩ := hr1 t j rfl hK
  have hK1 := hK.t1; have hK2 := hK.t2; have hK3 := hK.j1; have hK4 := hK.j2
  refine Tl.pss_cons ?_
  refine Tl.ps_expr ?_
  refine Tl.pe_call g_need_borders hr (by decide) ?_
  refine Tl.pa_cons ?_
  refine Tl.pe_nm 1 rfl ?_
  refine Tl.pa_nil ?_
  refine ⟨_, rfl, fun g2 => ?_, hx2⟩
  obtain ⟨ds, rfl, hB⟩ := isBordersD_iff.mp g2
  have hB1 := hB.lo; have hB2 := hB.hi; have hB3 := hB.all
  obtain ⟨hx3, hr3⟩ := hr2 ds rfl hB
  refine Tl.pss_cons ?_
  refine Tl.ps_expr ?_
  refine Tl.pe_call g_need_shifts hr (by decide) ?_
  refine Tl.pa_cons ?_
  refine Tl.pe_nm 0 rfl ?_
  refine Tl.pa_cons ?_
  refine Tl.pe_nm 2 rfl ?_
  refine Tl.pa_nil ?_
  refine ⟨t, j, _, rfl, fun g4 => ?_, hx3⟩
  obtain ⟨n, rfl, ⟨hn1, hn2⟩, hn3⟩ := isShiftD_iff.mp g4
  obtain ⟨hq1, hq2, hq3⟩ := div_bd hn1 (show 0 < t + j by omega) hn3
  refine Tl.pss_one ?_
  refine Tl.ps_ret ?_
  refine Tl.pe_maxL rfl m_max ?_
  refine Tl.pe_lc (own := [("offset", 3)]) (.nm 3) rfl sc_widest_shifted.nd (show BlkOk ["kind", "borders", "shifts", "offset"] (defScope st_widest_shifted) _ _ from blkOk_by (by decide +kernel)) (by decide) (fun _ _ _ _ _ => pg_name (i := 3) sc_widest_shifted.nd rfl (by first | exact Or.inl rfl | exact Or.inr rfl)) ?_
  refine Tl.lc_mp (fun d => match d with | .int o => .int (nars t j o ds n) | _ => .none) ?_
  refine Tl.pi_r1 m_range ?_
  refine Tl.pe_fdiv ?_
  refine Tl.pe_call g_step_of hr (by decide) ?_
  refine Tl.pa_cons ?_
  refine Tl.pe_nm 0 rfl ?_
  refine Tl.pa_nil ?_
  refine ⟨_, _, rfl, ?_⟩
  refine Tl.pe_nm 2 rfl ?_
  refine ⟨_, _, rfl, rfl, ⟨by omega, by omega⟩, ?_⟩
  refine ⟨_, rfl, ⟨by omega, by omega⟩, ?_⟩
  refine ⟨(by rw [rngD_length]; omega), ?_, ?_⟩
  · skip
    intro d hd
    obtain ⟨i, hi, rfl⟩ := rngD_mem hd
    refine ⟨_, rfl, rfl, fun _ _ _ _ _ => ?_⟩
    refine Tl.pe_call g_narrowest_of hr (by decide) ?_
    refine Tl.pa_cons ?_
    refine Tl.pe_nm 0 rfl ?_
    refine Tl.pa_cons ?_
    refine Tl.pe_nm 3 rfl ?_
    refine Tl.pa_cons ?_
    refine Tl.pe_nm 1 rfl ?_
    refine Tl.pa_cons ?_
    refine Tl.pe_nm 2 rfl ?_
    refine Tl.pa_nil ?_
    refine ⟨_, _, _, _, _, rfl, hK, ‹_›, by omega, ⟨by omega, by omega⟩, ?_⟩
    rfl
  refine ⟨(List.range ((t + j) / n).toNat).map (fun i : Nat => nars t j (0 + (i : Nat)) ds n), congrArg PyData.list (rngD_map 0 _ _ (fun i => nars t j i ds n) fun _ => rfl), (by intro z; have := congrArg List.length z; simp at this; omega), fun m hm1 hm2 => ?_⟩
  exact (wids_is (by omega) (by omega) hn1 hB3 hm1 hm2) ▸ hr3 n rfl hn1 hn2 hn3

abbrev st_pairs_of : Stmt := topS 45
theorem sc_pairs_of : FnScope ["kind", "offset", "rows", "saw", "cut", "starts", "ends", "found", "width", "index", "some", "row", "one", "end"] ["kind", "offset", "rows", "saw"] (defScope st_pairs_of) := ⟨rfl, rfl, rfl, by decide +kernel, rfl, by decide +kernel, by decide +kernel⟩
theorem ok_pairs_of (F : Df K mg "pairs_of" st_pairs_of ["kind", "offset", "rows", "saw"]) (m_enumerate : mg "enumerate" = none) (m_sorted : mg "sorted" = none) (g_pieces_of : Ok P w K mg base 3 "pieces_of" ["kind", "offset", "row"] s_pieces_of) : Ok P w K mg base 4 "pairs_of" ["kind", "offset", "rows", "saw"] s_pairs_of := by
  refine ok_of F sc_pairs_of (by decide) (by rintro _ _ _ ⟨t, j, o, rs, saw, rfl, _⟩; rfl) ?_
  rintro f cdv A outer s H E _ k ex hr ⟨t, j, o, rs, saw, rfl, hK, hl, hk⟩
  show Pss _ [.d (kD t j), .d (.int o), .d (rwsD rs), .d (.int saw), .un, .un, .un, .un, .un, .un, .un, .un, .un, .un] _ _
  have hcl : (cuts t j o rs).length = rs.length := List.length_map _
  refine Tl.pss_cons ?_
  refine Tl.ps_asLc (own := [("row", 11)]) 4 (.nm 11) rfl sc_pairs_of.nd (show BlkOk ["kind", "offset", "rows", "saw", "cut", "starts", "ends", "found", "width", "index", "some", "row", "one", "end"] (defScope st_pairs_of) _ _ from blkOk_by (by decide +kernel)) (by decide) (fun _ _ _ _ _ => pg_name (i := 11) sc_pairs_of.nd rfl (by first | exact Or.inl rfl | exact Or.inr rfl)) (sw_true rfl rfl rfl (by decide +kernel)) ?_
  refine Tl.lc_mp (cutFD t j o) ?_
  refine Tl.pi_t ?_
  refine Tl.pe_nm 2 rfl ?_
  refine ⟨_, rfl, ?_⟩
  refine ⟨(by rw [List.length_map]; omega), ?_, ?_⟩
  · skip
    intro d hd
    obtain ⟨p, hp, rfl⟩ := List.mem_map.mp hd
    refine ⟨_, rfl, rfl, fun _ _ _ _ _ => ?_⟩
    refine Tl.pe_call g_pieces_of hr (by decide) ?_
    refine Tl.pa_cons ?_
    refine Tl.pe_nm 0 rfl ?_
    refine Tl.pa_cons ?_
    refine Tl.pe_nm 1 rfl ?_
    refine Tl.pa_cons ?_
    refine Tl.pe_nm 11 rfl ?_
    refine Tl.pa_nil ?_
    refine ⟨_, _, _, _, _, rfl, hK, ?_⟩
    rfl
  rw [cutFD_map]
  refine Tl.pss_cons ?_
  refine Tl.ps_as 5 sc_pairs_of.nd ?_
  refine Tl.pe_srtP m_sorted ?_
  refine Tl.pe_lc (own := [("index", 9), ("one", 12)]) (.tp [9, 12]) rfl sc_pairs_of.nd (show BlkOk ["kind", "offset", "rows", "saw", "cut", "starts", "ends", "found", "width", "index", "some", "row", "one", "end"] (defScope st_pairs_of) _ _ from blkOk_by (by decide +kernel)) (by decide) (fun _ _ _ _ _ => pg_tup rfl (pgs_cons (pg_name (i := 9) sc_pairs_of.nd rfl (by first | exact Or.inl rfl | exact Or.inr rfl)) (pgs_cons (pg_name (i := 12) sc_pairs_of.nd rfl (by first | exact Or.inl rfl | exact Or.inr rfl)) pgs_nil))) ?_
  refine Tl.lc_fm sElt sTest ?_
  refine Tl.pi_en m_enumerate ?_
  refine Tl.pe_nm 4 rfl ?_
  refine ⟨_, rfl, ?_⟩
  refine ⟨(by rw [enumD_length, List.length_map]; omega), ?_, ?_⟩
  · skip
    intro d hd
    obtain ⟨ix, c, rfl⟩ := enum_cut hd
    refine ⟨_, rfl, rfl, fun _ _ _ _ _ => ?_, fun hp _ _ _ _ _ => ?_⟩
    · skip
      refine Tl.pts_1 ?_
      refine Tl.pt_gt ?_
      refine Tl.pe_at ?_
      refine Tl.pe_nm 12 rfl ?_
      refine ⟨_, _, rfl, rfl, ?_⟩
      refine Tl.pe_i ?_
      refine ⟨_, _, rfl, rfl, ?_⟩
      rfl
    · skip
      refine Tl.pe_tp ?_
      refine Tl.pa_cons ?_
      refine Tl.pe_at ?_
      refine Tl.pe_nm 12 rfl ?_
      refine ⟨_, _, rfl, rfl, ?_⟩
      refine Tl.pa_cons ?_
      refine Tl.pe_nm 9 rfl ?_
      refine Tl.pa_nil ?_
      refine ⟨[_, _], rfl, (by first | decide | (simp; done)), ?_⟩
      rfl
  refine ⟨pkL (·.1) 0 (cuts t j o rs), congrArg PyData.list (enum_s 0 _), fun ps hs1 hs2 => ?_⟩
  have hsl := Nat.le_trans (Nat.le_of_eq hs1.length_eq) (pkL_len _ _ _)
  refine Tl.pss_cons ?_
  refine Tl.ps_asSrtP 6 sc_pairs_of.nd m_sorted ?_
  refine Tl.pe_lc (own := [("index", 9), ("one", 12)]) (.tp [9, 12]) rfl sc_pairs_of.nd (show BlkOk ["kind", "offset", "rows", "saw", "cut", "starts", "ends", "found", "width", "index", "some", "row", "one", "end"] (defScope st_pairs_of) _ _ from blkOk_by (by decide +kernel)) (by decide) (fun _ _ _ _ _ => pg_tup rfl (pgs_cons (pg_name (i := 9) sc_pairs_of.nd rfl (by first | exact Or.inl rfl | exact Or.inr rfl)) (pgs_cons (pg_name (i := 12) sc_pairs_of.nd rfl (by first | exact Or.inl rfl | exact Or.inr rfl)) pgs_nil))) ?_
  refine Tl.lc_fm eElt eTest ?_
  refine Tl.pi_en m_enumerate ?_
  refine Tl.pe_nm 4 rfl ?_
  refine ⟨_, rfl, ?_⟩
  refine ⟨(by rw [enumD_length, List.length_map]; omega), ?_, ?_⟩
  · skip
    intro d hd
    obtain ⟨ix, c, rfl⟩ := enum_cut hd
    refine ⟨_, rfl, rfl, fun _ _ _ _ _ => ?_, fun hp _ _ _ _ _ => ?_⟩
    · skip
      refine Tl.pts_1 ?_
      refine Tl.pt_gt ?_
      refine Tl.pe_at ?_
      refine Tl.pe_nm 12 rfl ?_
      refine ⟨_, _, rfl, rfl, ?_⟩
      refine Tl.pe_i ?_
      refine ⟨_, _, rfl, rfl, ?_⟩
      rfl
    · skip
      refine Tl.pe_tp ?_
      refine Tl.pa_cons ?_
      refine Tl.pe_at ?_
      refine Tl.pe_nm 12 rfl ?_
      refine ⟨_, _, rfl, rfl, ?_⟩
      refine Tl.pa_cons ?_
      refine Tl.pe_nm 9 rfl ?_
      refine Tl.pa_nil ?_
      refine ⟨[_, _], rfl, (by first | decide | (simp; done)), ?_⟩
      rfl
  refine ⟨pkL (·.2.2) 0 (cuts t j o rs), congrArg PyData.list (enum_e 0 _), fun es he1 he2 q1 => ?_⟩
  have hel := Nat.le_trans (Nat.le_of_eq he1.length_eq) (pkL_len _ _ _)
  refine Tl.pss_cons ?_
  refine Tl.ps_own 7 sc_pairs_of.nd ?_
  refine Tl.pa_nil ?_
  refine ⟨[], rfl, (by decide), fun q1 => ?_⟩
  refine Tl.pss_cons ?_
  refine @Tl.ps_for _ _ _ _ _ _ _ (.tp [8, 9]) (passes_of rfl) rfl (pg_tup rfl (pgs_cons (pg_name (i := 8) sc_pairs_of.nd rfl (by first | exact Or.inl rfl | exact Or.inr rfl)) (pgs_cons (pg_name (i := 9) sc_pairs_of.nd rfl (by first | exact Or.inl rfl | exact Or.inr rfl)) pgs_nil))) ?_ (by intro _; rfl)
  refine Tl.pi_l ?_
  refine Tl.pe_rev ?_
  refine Tl.pe_nm 5 rfl ?_
  refine ⟨_, rfl, ?_⟩
  refine ⟨_, rfl, ?_⟩
  refine ⟨fun i δ => ∃ (s_width s_index s_some : Slot) (q1 : Addr) (q2 : Addr), δ = [.d (kD t j), .d (.int o), .d (rwsD rs), .d (.int saw), .d (.list ((cuts t j o rs).map cD)), .d (.list (ps.map pD)), .own q1 ((gst t saw ps.reverse es i).2.map pD), .own q2 ((gst t saw ps.reverse es i).1.map pD), s_width, s_index, s_some, .un, .un, .un] ∧ True, ⟨_, _, _, _, _, rfl, trivial⟩, ?_, ?_⟩
  · skip
    rintro i d δ1 hd ⟨s_width, s_index, s_some, q1, q2, rfl, _⟩
    rw [← List.map_reverse, List.getElem?_map] at hd
    obtain ⟨⟨w, ix⟩, hx, rfl⟩ := Option.map_eq_some_iff.mp hd
    have hg1 := gst_len (t := t) (saw := saw) (ss := ps.reverse) (es := es) i
    have hg2 := gst_len2 (t := t) (saw := saw) (ss := ps.reverse) (es := es) i
    have hi := (List.getElem?_eq_some_iff.mp hx).1
    rw [List.length_reverse] at hi
    refine ⟨_, rfl, ?_⟩
    refine Tl.pss_cons ?_
    refine Tl.ps_asLc (own := [("end", 13)]) 10 (.nm 13) rfl sc_pairs_of.nd (show BlkOk ["kind", "offset", "rows", "saw", "cut", "starts", "ends", "found", "width", "index", "some", "row", "one", "end"] (defScope st_pairs_of) _ _ from blkOk_by (by decide +kernel)) (by decide) (fun _ _ _ _ _ => pg_name (i := 13) sc_pairs_of.nd rfl (by first | exact Or.inl rfl | exact Or.inr rfl)) (sw_true rfl rfl rfl (by decide +kernel)) ?_
    refine Tl.lc_fm (fun d => d) (fTest t saw w) ?_
    refine Tl.pi_ow 6 rfl ?_
    refine ⟨(by rw [List.length_map]; omega), ?_, ?_⟩
    · skip
      intro d hd
      obtain ⟨p, hp, rfl⟩ := List.mem_map.mp hd
      refine ⟨_, rfl, rfl, fun _ _ _ _ _ => ?_, fun hp _ _ _ _ _ => ?_⟩
      · skip
        refine Tl.pts_1 ?_
        refine Tl.pt_le ?_
        refine Tl.pe_add ?_
        refine Tl.pe_add ?_
        refine Tl.pe_at ?_
        refine Tl.pe_nm 13 rfl ?_
        refine ⟨_, _, rfl, rfl, ?_⟩
        refine Tl.pe_nm 8 rfl ?_
        refine ⟨_, _, rfl, rfl, ?_⟩
        refine Tl.pe_nm 3 rfl ?_
        refine ⟨_, _, rfl, rfl, ?_⟩
        refine Tl.pe_at ?_
        refine Tl.pe_nm 0 rfl ?_
        refine ⟨_, _, rfl, rfl, ?_⟩
        refine ⟨_, _, rfl, rfl, ?_⟩
        rfl
      · skip
        refine Tl.pe_nm 13 rfl ?_
        rfl
    rw [fits_D]
    refine Tl.pss_cons ?_
    refine Tl.ps_if ?_
    refine Tl.pt_ne hr.units ?_
    refine Tl.pe_nm 10 rfl ?_
    refine Tl.pe_ls ?_
    refine Tl.pa_nil ?_
    refine ⟨[], rfl, (by first | decide | (simp; done)), ?_⟩
    refine ⟨(pairs_shaped _), (by first | rfl | assumption | exact ints_shaped _ | exact shaped_side _ | decide +kernel), ?_⟩
    refine iteB (fun hne => ?_) (fun hne => ?_)
    · skip
      try simp only [eqv_int, eqv_side, eqv_sideL, Bool.not_eq_true, Bool.not_eq_false, decide_eq_true_eq, decide_eq_false_iff_not, Bool.not_eq_true', Bool.not_eq_false'] at hne
      rw [eqvP_nil, decide_eq_false_iff_not] at hne
      refine Tl.pss_cons ?_
      refine Tl.ps_app 7 rfl ?_ (hap := fun tt h => pe_bm PySem.F.plainAttrs_list PySem.F.slot_list_append PySem.F.type_list_append mt_append (pv 7) (L2.pa_cons h L2.pa_nil))
      refine Tl.pe_tp ?_
      refine Tl.pa_cons ?_
      refine Tl.pe_nm 9 rfl ?_
      refine Tl.pa_cons ?_
      refine Tl.pe_at ?_
      refine Tl.pe_ixL ?_
      refine Tl.pe_nm 10 rfl ?_
      refine Tl.pe_neg ?_
      refine Tl.pe_i ?_
      refine ⟨_, rfl, ?_⟩
      refine ⟨_, _, _, rfl, rfl, (last_D hne), ?_⟩
      refine ⟨_, _, rfl, rfl, ?_⟩
      refine Tl.pa_nil ?_
      refine ⟨[_, _], rfl, (by first | decide | (simp; done)), ?_⟩
      refine ⟨(by rw [List.length_map]; omega), ?_⟩
      refine Tl.pss_cons ?_
      refine Tl.ps_remP 6 rfl ?_ (hap := fun tt h => pe_bm PySem.F.plainAttrs_list PySem.F.slot_list_remove PySem.F.type_list_remove (mt_removeD (room65 hr)) (pv 6) (L2.pa_cons h L2.pa_nil))
      refine Tl.pe_ixL ?_
      refine Tl.pe_nm 10 rfl ?_
      refine Tl.pe_neg ?_
      refine Tl.pe_i ?_
      refine ⟨_, rfl, ?_⟩
      refine ⟨_, _, _, rfl, rfl, (last_D hne), ?_⟩
      refine ⟨_, rfl, (List.mem_filter.mp (List.getLast_mem hne)).1, ?_⟩
      refine Tl.pss_nil ?_
      refine Tl.pss_nil ?_
      dsimp only
      first | rw [gst_succ hx, gstep_yes hne, List.map_append] | rw [gst_succ hx, gstep_no hne]
      exact ⟨_, _, _, _, _, rfl, trivial⟩
    · skip
      try simp only [eqv_int, eqv_side, eqv_sideL, Bool.not_eq_true, Bool.not_eq_false, decide_eq_true_eq, decide_eq_false_iff_not, Bool.not_eq_true', Bool.not_eq_false'] at hne
      rw [eqvP_nil, decide_eq_true_eq] at hne
      refine Tl.pss_nil ?_
      refine Tl.pss_nil ?_
      dsimp only
      first | rw [gst_succ hx, gstep_yes hne, List.map_append] | rw [gst_succ hx, gstep_no hne]
      exact ⟨_, _, _, _, _, rfl, trivial⟩
  · skip
    rintro δ1 ⟨s_width, s_index, s_some, q1, q2, rfl, _⟩
    rw [List.length_reverse, List.length_map, ← List.length_reverse (as := ps), gst_all]
    refine Tl.pss_freeze 7 rfl ?_
    refine Tl.pss_one ?_
    refine Tl.ps_ret ?_
    refine Tl.pe_srtP m_sorted ?_
    refine Tl.pe_nm 7 rfl ?_
    refine ⟨_, rfl, fun ms hm1 hm2 => ?_⟩
    exact hk ms (pairs_done hs1 hs2 he1 hm1)

abbrev st_needed : Stmt := topS 46
theorem sc_needed : FnScope ["kind", "offset", "rows", "saw", "cut", "whole", "row", "one"] ["kind", "offset", "rows", "saw"] (defScope st_needed) := ⟨rfl, rfl, rfl, by decide +kernel, rfl, by decide +kernel, by decide +kernel⟩
theorem ok_needed (F : Df K mg "needed" st_needed ["kind", "offset", "rows", "saw"]) (m_int : mg "int" = none) (m_len : mg "len" = none) (m_sum : mg "sum" = none) (g_pieces_of : Ok P w K mg base 3 "pieces_of" ["kind", "offset", "row"] s_pieces_of) (g_pairs_of : Ok P w K mg base 4 "pairs_of" ["kind", "offset", "rows", "saw"] s_pairs_of) : Ok P w K mg base 5 "needed" ["kind", "offset", "rows", "saw"] s_needed := by
  refine ok_of F sc_needed (by decide) (by rintro _ _ _ ⟨t, j, o, rs, saw, rfl, _⟩; rfl) ?_
  rintro f cdv A outer s H E _ k ex hr ⟨t, j, o, rs, saw, rfl, hK, hl, hk⟩
  show Pss _ [.d (kD t j), .d (.int o), .d (rwsD rs), .d (.int saw), .un, .un, .un, .un] _ _
  refine Tl.pss_cons ?_
  refine Tl.ps_asLc (own := [("row", 6)]) 4 (.nm 6) rfl sc_needed.nd (show BlkOk ["kind", "offset", "rows", "saw", "cut", "whole", "row", "one"] (defScope st_needed) _ _ from blkOk_by (by decide +kernel)) (by decide) (fun _ _ _ _ _ => pg_name (i := 6) sc_needed.nd rfl (by first | exact Or.inl rfl | exact Or.inr rfl)) (sw_true rfl rfl rfl (by decide +kernel)) ?_
  refine Tl.lc_mp (cutFD t j o) ?_
  refine Tl.pi_t ?_
  refine Tl.pe_nm 2 rfl ?_
  refine ⟨_, rfl, ?_⟩
  refine ⟨(by rw [List.length_map]; omega), ?_, ?_⟩
  · skip
    intro d hd
    obtain ⟨p, hp, rfl⟩ := List.mem_map.mp hd
    refine ⟨_, rfl, rfl, fun _ _ _ _ _ => ?_⟩
    refine Tl.pe_call g_pieces_of hr (by decide) ?_
    refine Tl.pa_cons ?_
    refine Tl.pe_nm 0 rfl ?_
    refine Tl.pa_cons ?_
    refine Tl.pe_nm 1 rfl ?_
    refine Tl.pa_cons ?_
    refine Tl.pe_nm 6 rfl ?_
    refine Tl.pa_nil ?_
    refine ⟨_, _, _, _, _, rfl, hK, ?_⟩
    rfl
  rw [cutFD_map]
  refine Tl.pss_cons ?_
  refine Tl.ps_as 5 sc_needed.nd ?_
  refine Tl.pe_sum rfl m_sum ?_
  refine Tl.pe_lc (own := [("one", 7)]) (.nm 7) rfl sc_needed.nd (show BlkOk ["kind", "offset", "rows", "saw", "cut", "whole", "row", "one"] (defScope st_needed) _ _ from blkOk_by (by decide +kernel)) (by decide) (fun _ _ _ _ _ => pg_name (i := 7) sc_needed.nd rfl (by first | exact Or.inl rfl | exact Or.inr rfl)) ?_
  refine Tl.lc_mp wSumD ?_
  refine Tl.pi_l ?_
  refine Tl.pe_nm 4 rfl ?_
  refine ⟨_, rfl, ?_⟩
  refine ⟨(by rw [List.length_map, List.length_map]; omega), ?_, ?_⟩
  · skip
    intro d hd
    obtain ⟨c, hc, rfl⟩ := List.mem_map.mp hd
    refine ⟨_, rfl, rfl, fun _ _ _ _ _ => ?_⟩
    refine Tl.pe_add ?_
    refine Tl.pe_add ?_
    refine Tl.pe_at ?_
    refine Tl.pe_nm 7 rfl ?_
    refine ⟨_, _, rfl, rfl, ?_⟩
    refine Tl.pe_int m_int ?_
    refine Tl.pe_gt ?_
    refine Tl.pe_at ?_
    refine Tl.pe_nm 7 rfl ?_
    refine ⟨_, _, rfl, rfl, ?_⟩
    refine Tl.pe_i ?_
    refine ⟨_, _, rfl, rfl, ?_⟩
    refine ⟨_, rfl, ?_⟩
    refine ⟨_, _, rfl, rfl, ?_⟩
    refine Tl.pe_int m_int ?_
    refine Tl.pe_gt ?_
    refine Tl.pe_at ?_
    refine Tl.pe_nm 7 rfl ?_
    refine ⟨_, _, rfl, rfl, ?_⟩
    refine Tl.pe_i ?_
    refine ⟨_, _, rfl, rfl, ?_⟩
    refine ⟨_, rfl, ?_⟩
    refine ⟨_, _, rfl, rfl, ?_⟩
    rfl
  refine ⟨_, (congrArg PyData.list wSumD_map), ?_⟩
  refine Tl.pss_one ?_
  refine Tl.ps_ret ?_
  refine Tl.pe_sub ?_
  refine Tl.pe_nm 5 rfl ?_
  refine Tl.pe_len m_len ?_
  refine Tl.pe_call g_pairs_of hr (by decide) ?_
  refine Tl.pa_cons ?_
  refine Tl.pe_nm 0 rfl ?_
  refine Tl.pa_cons ?_
  refine Tl.pe_nm 1 rfl ?_
  refine Tl.pa_cons ?_
  refine Tl.pe_nm 2 rfl ?_
  refine Tl.pa_cons ?_
  refine Tl.pe_nm 3 rfl ?_
  refine Tl.pa_nil ?_
  refine ⟨_, _, _, _, _, rfl, hK, hl, fun ps hps => ?_⟩
  refine ⟨_, .inl rfl, ?_⟩
  refine ⟨_, _, rfl, rfl, ?_⟩
  rw [List.length_map, hps.len, wSum_all]
  exact hk

abbrev st_pairs : Stmt := topS 47
theorem sc_pairs : FnScope ["kind", "offset", "rows", "saw"] ["kind", "offset", "rows", "saw"] (defScope st_pairs) := ⟨rfl, rfl, rfl, by decide +kernel, rfl, by decide +kernel, by decide +kernel⟩
theorem ok_pairs {cl_InvalidKind cl_InvalidNumber cl_InvalidOffset cl_InvalidRow : Addr} (F : Df K mg "pairs" st_pairs ["kind", "offset", "rows", "saw"]) (g_need_kind : Ok P w K mg base 3 "need_kind" ["value"] (s_need_kind cl_InvalidKind)) (g_need_offset : Ok P w K mg base 2 "need_offset" ["kind", "value"] (s_need_offset cl_InvalidOffset)) (g_need_rows : Ok P w K mg base 3 "need_rows" ["kind", "value"] (s_need_rows cl_InvalidRow)) (g_need_number : Ok P w K mg base 2 "need_number" ["value", "low", "high"] (s_need_number cl_InvalidNumber)) (g_pairs_of : Ok P w K mg base 4 "pairs_of" ["kind", "offset", "rows", "saw"] s_pairs_of) : Ok P w K mg base 5 "pairs" ["kind", "offset", "rows", "saw"] (s_pairs cl_InvalidKind cl_InvalidOffset cl_InvalidRow cl_InvalidNumber) := by
  refine ok_of F sc_pairs (by decide) (by rintro _ _ _ ⟨kd, od, rd, sd, rfl, _⟩; rfl) ?_
  rintro f cdv A outer s H E _ k ex hr ⟨kd, od, rd, sd, rfl, hx, hr1⟩
  show Pss _ [.d kd, .d od, .d rd, .d sd] _ _
  refine Tl.pss_cons ?_
  refine Tl.ps_expr ?_
  refine Tl.pe_call g_need_kind hr (by decide) ?_
  refine Tl.pa_cons ?_
  refine Tl.pe_nm 0 rfl ?_
  refine Tl.pa_nil ?_
  refine ⟨_, rfl, fun g1 => ?_, hx⟩
  obtain ⟨t, j, rfl, hK⟩ := isKindD_iff.mp g1
  obtain ⟨hx2, hr2⟩ := hr1 t j rfl hK
  have hK1 := hK.t1; have hK2 := hK.t2; have hK3 := hK.j1; have hK4 := hK.j2
  refine Tl.pss_cons ?_
  refine Tl.ps_expr ?_
  refine Tl.pe_call g_need_offset hr (by decide) ?_
  refine Tl.pa_cons ?_
  refine Tl.pe_nm 0 rfl ?_
  refine Tl.pa_cons ?_
  refine Tl.pe_nm 1 rfl ?_
  refine Tl.pa_nil ?_
  refine ⟨t, j, _, rfl, fun g2 => ?_, hx2⟩
  obtain ⟨o, rfl, ho1, ho2⟩ := isIntD_iff.mp g2
  obtain ⟨hx3, hr3⟩ := hr2 o rfl ho1 ho2
  refine Tl.pss_cons ?_
  refine Tl.ps_expr ?_
  refine Tl.pe_call g_need_rows hr (by decide) ?_
  refine Tl.pa_cons ?_
  refine Tl.pe_nm 0 rfl ?_
  refine Tl.pa_cons ?_
  refine Tl.pe_nm 2 rfl ?_
  refine Tl.pa_nil ?_
  refine ⟨t, j, _, rfl, fun g3 => ?_, hx3⟩
  obtain ⟨rs, rfl, hR⟩ := isRowsD_iff.mp g3
  obtain ⟨hx4, hr4⟩ := hr3 rs rfl hR
  have hR1 := hR.lo; have hR2 := hR.hi
  refine Tl.pss_cons ?_
  refine Tl.ps_expr ?_
  refine Tl.pe_call g_need_number hr (by decide) ?_
  refine Tl.pa_cons ?_
  refine Tl.pe_nm 3 rfl ?_
  refine Tl.pa_cons ?_
  refine Tl.pe_i ?_
  refine Tl.pa_cons ?_
  refine Tl.pe_i ?_
  refine Tl.pa_nil ?_
  refine ⟨_, _, _, rfl, fun g4 => ?_, hx4⟩
  obtain ⟨saw, rfl, hs1, hs2⟩ := isIntD_iff.mp g4
  refine Tl.pss_one ?_
  refine Tl.ps_ret ?_
  refine Tl.pe_call g_pairs_of hr (by decide) ?_
  refine Tl.pa_cons ?_
  refine Tl.pe_nm 0 rfl ?_
  refine Tl.pa_cons ?_
  refine Tl.pe_nm 1 rfl ?_
  refine Tl.pa_cons ?_
  refine Tl.pe_nm 2 rfl ?_
  refine Tl.pa_cons ?_
  refine Tl.pe_nm 3 rfl ?_
  refine Tl.pa_nil ?_
  refine ⟨_, _, _, _, _, rfl, hK, hR2, fun ps hps => ?_⟩
  exact hr4 saw rfl hs1 hs2 ps hps

abbrev st_tiles_needed : Stmt := topS 48
theorem sc_tiles_needed : FnScope ["kind", "offset", "rows", "saw"] ["kind", "offset", "rows", "saw"] (defScope st_tiles_needed) := ⟨rfl, rfl, rfl, by decide +kernel, rfl, by decide +kernel, by decide +kernel⟩
theorem ok_tiles_needed {cl_InvalidKind cl_InvalidNumber cl_InvalidOffset cl_InvalidRow : Addr} (F : Df K mg "tiles_needed" st_tiles_needed ["kind", "offset", "rows", "saw"]) (g_need_kind : Ok P w K mg base 3 "need_kind" ["value"] (s_need_kind cl_InvalidKind)) (g_need_offset : Ok P w K mg base 2 "need_offset" ["kind", "value"] (s_need_offset cl_InvalidOffset)) (g_need_rows : Ok P w K mg base 3 "need_rows" ["kind", "value"] (s_need_rows cl_InvalidRow)) (g_need_number : Ok P w K mg base 2 "need_number" ["value", "low", "high"] (s_need_number cl_InvalidNumber)) (g_needed : Ok P w K mg base 5 "needed" ["kind", "offset", "rows", "saw"] s_needed) : Ok P w K mg base 6 "tiles_needed" ["kind", "offset", "rows", "saw"] (s_tiles_needed cl_InvalidKind cl_InvalidOffset cl_InvalidRow cl_InvalidNumber) := by
  refine ok_of F sc_tiles_needed (by decide) (by rintro _ _ _ ⟨kd, od, rd, sd, rfl, _⟩; rfl) ?_
  rintro f cdv A outer s H E _ k ex hr ⟨kd, od, rd, sd, rfl, hx, hr1⟩
  show Pss _ [.d kd, .d od, .d rd, .d sd] _ _
  refine Tl.pss_cons ?_
  refine Tl.ps_expr ?_
  refine Tl.pe_call g_need_kind hr (by decide) ?_
  refine Tl.pa_cons ?_
  refine Tl.pe_nm 0 rfl ?_
  refine Tl.pa_nil ?_
  refine ⟨_, rfl, fun g1 => ?_, hx⟩
  obtain ⟨t, j, rfl, hK⟩ := isKindD_iff.mp g1
  obtain ⟨hx2, hr2⟩ := hr1 t j rfl hK
  have hK1 := hK.t1; have hK2 := hK.t2; have hK3 := hK.j1; have hK4 := hK.j2
  refine Tl.pss_cons ?_
  refine Tl.ps_expr ?_
  refine Tl.pe_call g_need_offset hr (by decide) ?_
  refine Tl.pa_cons ?_
  refine Tl.pe_nm 0 rfl ?_
  refine Tl.pa_cons ?_
  refine Tl.pe_nm 1 rfl ?_
  refine Tl.pa_nil ?_
  refine ⟨t, j, _, rfl, fun g2 => ?_, hx2⟩
  obtain ⟨o, rfl, ho1, ho2⟩ := isIntD_iff.mp g2
  obtain ⟨hx3, hr3⟩ := hr2 o rfl ho1 ho2
  refine Tl.pss_cons ?_
  refine Tl.ps_expr ?_
  refine Tl.pe_call g_need_rows hr (by decide) ?_
  refine Tl.pa_cons ?_
  refine Tl.pe_nm 0 rfl ?_
  refine Tl.pa_cons ?_
  refine Tl.pe_nm 2 rfl ?_
  refine Tl.pa_nil ?_
  refine ⟨t, j, _, rfl, fun g3 => ?_, hx3⟩
  obtain ⟨rs, rfl, hR⟩ := isRowsD_iff.mp g3
  obtain ⟨hx4, hr4⟩ := hr3 rs rfl hR
  have hR1 := hR.lo; have hR2 := hR.hi
  refine Tl.pss_cons ?_
  refine Tl.ps_expr ?_
  refine Tl.pe_call g_need_number hr (by decide) ?_
  refine Tl.pa_cons ?_
  refine Tl.pe_nm 3 rfl ?_
  refine Tl.pa_cons ?_
  refine Tl.pe_i ?_
  refine Tl.pa_cons ?_
  refine Tl.pe_i ?_
  refine Tl.pa_nil ?_
  refine ⟨_, _, _, rfl, fun g4 => ?_, hx4⟩
  obtain ⟨saw, rfl, hs1, hs2⟩ := isIntD_iff.mp g4
  refine Tl.pss_one ?_
  refine Tl.ps_ret ?_
  refine Tl.pe_call g_needed hr (by decide) ?_
  refine Tl.pa_cons ?_
  refine Tl.pe_nm 0 rfl ?_
  refine Tl.pa_cons ?_
  refine Tl.pe_nm 1 rfl ?_
  refine Tl.pa_cons ?_
  refine Tl.pe_nm 2 rfl ?_
  refine Tl.pa_cons ?_
  refine Tl.pe_nm 3 rfl ?_
  refine Tl.pa_nil ?_
  refine ⟨_, _, _, _, _, rfl, hK, hR2, ?_⟩
  exact hr4 saw rfl hs1 hs2

abbrev st_fewest_tiles : Stmt := topS 49
theorem sc_fewest_tiles : FnScope ["kind", "rows", "saw", "offset"] ["kind", "rows", "saw"] (defScope st_fewest_tiles) := ⟨rfl, rfl, rfl, by decide +kernel, rfl, by decide +kernel, by decide +kernel⟩
theorem ok_fewest_tiles {cl_InvalidKind cl_InvalidNumber cl_InvalidRow : Addr} (F : Df K mg "fewest_tiles" st_fewest_tiles ["kind", "rows", "saw"]) (m_min : mg "min" = none) (m_range : mg "range" = none) (g_need_kind : Ok P w K mg base 3 "need_kind" ["value"] (s_need_kind cl_InvalidKind)) (g_need_rows : Ok P w K mg base 3 "need_rows" ["kind", "value"] (s_need_rows cl_InvalidRow)) (g_need_number : Ok P w K mg base 2 "need_number" ["value", "low", "high"] (s_need_number cl_InvalidNumber)) (g_step_of : Ok P w K mg base 1 "step_of" ["kind"] s_step_of) (g_needed : Ok P w K mg base 5 "needed" ["kind", "offset", "rows", "saw"] s_needed) : Ok P w K mg base 6 "fewest_tiles" ["kind", "rows", "saw"] (s_fewest_tiles cl_InvalidKind cl_InvalidRow cl_InvalidNumber) := by
  refine ok_of F sc_fewest_tiles (by decide) (by rintro _ _ _ ⟨kd, rd, sd, rfl, _⟩; rfl) ?_
  rintro f cdv A outer s H E _ k ex hr ⟨kd, rd, sd, rfl, hx, hr1⟩
  show Pss _ [.d kd, .d rd, .d sd, .un] _ _
  refine Tl.pss_cons ?_
  refine Tl.ps_expr ?_
  refine Tl.pe_call g_need_kind hr (by decide) ?_
  refine Tl.pa_cons ?_
  refine Tl.pe_nm 0 rfl ?_
  refine Tl.pa_nil ?_
  refine ⟨_, rfl, fun g1 => ?_, hx⟩
  obtain ⟨t, j, rfl, hK⟩ := isKindD_iff.mp g1
  obtain ⟨hx2, hr2⟩ := hr1 t j rfl hK
  have hK1 := hK.t1; have hK2 := hK.t2; have hK3 := hK.j1; have hK4 := hK.j2
  refine Tl.pss_cons ?_
  refine Tl.ps_expr ?_
  refine Tl.pe_call g_need_rows hr (by decide) ?_
  refine Tl.pa_cons ?_
  refine Tl.pe_nm 0 rfl ?_
  refine Tl.pa_cons ?_
  refine Tl.pe_nm 1 rfl ?_
  refine Tl.pa_nil ?_
  refine ⟨t, j, _, rfl, fun g3 => ?_, hx2⟩
  obtain ⟨rs, rfl, hR⟩ := isRowsD_iff.mp g3
  obtain ⟨hx4, hr4⟩ := hr2 rs rfl hR
  have hR1 := hR.lo; have hR2 := hR.hi
  refine Tl.pss_cons ?_
  refine Tl.ps_expr ?_
  refine Tl.pe_call g_need_number hr (by decide) ?_
  refine Tl.pa_cons ?_
  refine Tl.pe_nm 2 rfl ?_
  refine Tl.pa_cons ?_
  refine Tl.pe_i ?_
  refine Tl.pa_cons ?_
  refine Tl.pe_i ?_
  refine Tl.pa_nil ?_
  refine ⟨_, _, _, rfl, fun g4 => ?_, hx4⟩
  obtain ⟨saw, rfl, hs1, hs2⟩ := isIntD_iff.mp g4
  refine Tl.pss_one ?_
  refine Tl.ps_ret ?_
  refine Tl.pe_minP rfl (room65 hr) m_min ?_
  refine Tl.pe_lc (own := [("offset", 3)]) (.nm 3) rfl sc_fewest_tiles.nd (show BlkOk ["kind", "rows", "saw", "offset"] (defScope st_fewest_tiles) _ _ from blkOk_by (by decide +kernel)) (by decide) (fun _ _ _ _ _ => pg_name (i := 3) sc_fewest_tiles.nd rfl (by first | exact Or.inl rfl | exact Or.inr rfl)) ?_
  refine Tl.lc_mp (fun d => match d with | .int o => pD (nd t j saw rs o, o) | _ => .none) ?_
  refine Tl.pi_r1 m_range ?_
  refine Tl.pe_call g_step_of hr (by decide) ?_
  refine Tl.pa_cons ?_
  refine Tl.pe_nm 0 rfl ?_
  refine Tl.pa_nil ?_
  refine ⟨_, _, rfl, ?_⟩
  refine ⟨_, rfl, ⟨by omega, by omega⟩, ?_⟩
  refine ⟨(by rw [rngD_length]; omega), ?_, ?_⟩
  · skip
    intro d hd
    obtain ⟨i, hi, rfl⟩ := rngD_mem hd
    refine ⟨_, rfl, rfl, fun _ _ _ _ _ => ?_⟩
    refine Tl.pe_tp ?_
    refine Tl.pa_cons ?_
    refine Tl.pe_call g_needed hr (by decide) ?_
    refine Tl.pa_cons ?_
    refine Tl.pe_nm 0 rfl ?_
    refine Tl.pa_cons ?_
    refine Tl.pe_nm 3 rfl ?_
    refine Tl.pa_cons ?_
    refine Tl.pe_nm 1 rfl ?_
    refine Tl.pa_cons ?_
    refine Tl.pe_nm 2 rfl ?_
    refine Tl.pa_nil ?_
    refine ⟨_, _, _, _, _, rfl, hK, hR2, ?_⟩
    refine Tl.pa_cons ?_
    refine Tl.pe_nm 3 rfl ?_
    refine Tl.pa_nil ?_
    refine ⟨[_, _], rfl, (by first | decide | (simp; done)), ?_⟩
    rfl
  refine ⟨(List.range (t + j).toNat).map (fun i : Nat => (nd t j saw rs (0 + (i : Nat)), 0 + (i : Nat))), congrArg PyData.list (by simp only [rngD, List.map_map]; rfl), (by intro z; have := congrArg List.length z; simp at this; omega), fun p hp hmin => ?_⟩
  obtain ⟨i, hi, rfl⟩ := List.mem_map.mp hp
  have hi := List.mem_range.mp hi
  refine hr4 saw rfl hs1 hs2 _ _ ⟨by omega, by omega, rfl, fun o' h1 h2 => ?_⟩
  have h3 := hmin _ (List.mem_map.mpr ⟨o'.toNat, List.mem_range.mpr (by omega), rfl⟩)
  rw [show (0 : Int) + (o'.toNat : Nat) = o' by omega] at h3
  exact h3

abbrev st_cheap_offsets : Stmt := topS 50
theorem sc_cheap_offsets : FnScope ["kind", "rows", "saw", "number", "offset"] ["kind", "rows", "saw", "number"] (defScope st_cheap_offsets) := ⟨rfl, rfl, rfl, by decide +kernel, rfl, by decide +kernel, by decide +kernel⟩
theorem ok_cheap_offsets {cl_InvalidKind cl_InvalidNumber cl_InvalidRow : Addr} (F : Df K mg "cheap_offsets" st_cheap_offsets ["kind", "rows", "saw", "number"]) (m_range : mg "range" = none) (g_need_kind : Ok P w K mg base 3 "need_kind" ["value"] (s_need_kind cl_InvalidKind)) (g_need_rows : Ok P w K mg base 3 "need_rows" ["kind", "value"] (s_need_rows cl_InvalidRow)) (g_need_number : Ok P w K mg base 2 "need_number" ["value", "low", "high"] (s_need_number cl_InvalidNumber)) (g_step_of : Ok P w K mg base 1 "step_of" ["kind"] s_step_of) (g_needed : Ok P w K mg base 5 "needed" ["kind", "offset", "rows", "saw"] s_needed) : Ok P w K mg base 6 "cheap_offsets" ["kind", "rows", "saw", "number"] (s_cheap_offsets cl_InvalidKind cl_InvalidRow cl_InvalidNumber) := by
  refine ok_of F sc_cheap_offsets (by decide) (by rintro _ _ _ ⟨kd, rd, sd, ed, rfl, _⟩; rfl) ?_
  rintro f cdv A outer s H E _ k ex hr ⟨kd, rd, sd, ed, rfl, hx, hr1⟩
  show Pss _ [.d kd, .d rd, .d sd, .d ed, .un] _ _
  refine Tl.pss_cons ?_
  refine Tl.ps_expr ?_
  refine Tl.pe_call g_need_kind hr (by decide) ?_
  refine Tl.pa_cons ?_
  refine Tl.pe_nm 0 rfl ?_
  refine Tl.pa_nil ?_
  refine ⟨_, rfl, fun g1 => ?_, hx⟩
  obtain ⟨t, j, rfl, hK⟩ := isKindD_iff.mp g1
  obtain ⟨hx2, hr2⟩ := hr1 t j rfl hK
  have hK1 := hK.t1; have hK2 := hK.t2; have hK3 := hK.j1; have hK4 := hK.j2
  refine Tl.pss_cons ?_
  refine Tl.ps_expr ?_
  refine Tl.pe_call g_need_rows hr (by decide) ?_
  refine Tl.pa_cons ?_
  refine Tl.pe_nm 0 rfl ?_
  refine Tl.pa_cons ?_
  refine Tl.pe_nm 1 rfl ?_
  refine Tl.pa_nil ?_
  refine ⟨t, j, _, rfl, fun g3 => ?_, hx2⟩
  obtain ⟨rs, rfl, hR⟩ := isRowsD_iff.mp g3
  obtain ⟨hx4, hr4⟩ := hr2 rs rfl hR
  have hR1 := hR.lo; have hR2 := hR.hi
  refine Tl.pss_cons ?_
  refine Tl.ps_expr ?_
  refine Tl.pe_call g_need_number hr (by decide) ?_
  refine Tl.pa_cons ?_
  refine Tl.pe_nm 2 rfl ?_
  refine Tl.pa_cons ?_
  refine Tl.pe_i ?_
  refine Tl.pa_cons ?_
  refine Tl.pe_i ?_
  refine Tl.pa_nil ?_
  refine ⟨_, _, _, rfl, fun g4 => ?_, hx4⟩
  obtain ⟨saw, rfl, hs1, hs2⟩ := isIntD_iff.mp g4
  obtain ⟨hx5, hr5⟩ := hr4 saw rfl hs1 hs2
  refine Tl.pss_cons ?_
  refine Tl.ps_expr ?_
  refine Tl.pe_call g_need_number hr (by decide) ?_
  refine Tl.pa_cons ?_
  refine Tl.pe_nm 3 rfl ?_
  refine Tl.pa_cons ?_
  refine Tl.pe_i ?_
  refine Tl.pa_cons ?_
  refine Tl.pe_powc (v := 1000000000000000) ⟨by decide, by decide, by decide⟩ (by decide) ?_
  refine Tl.pa_nil ?_
  refine ⟨_, _, _, rfl, fun g5 => ?_, hx5⟩
  obtain ⟨n, rfl, hn1, hn2⟩ := isIntD_iff.mp g5
  refine Tl.pss_one ?_
  refine Tl.ps_ret ?_
  refine Tl.pe_lc (own := [("offset", 4)]) (.nm 4) rfl sc_cheap_offsets.nd (show BlkOk ["kind", "rows", "saw", "number", "offset"] (defScope st_cheap_offsets) _ _ from blkOk_by (by decide +kernel)) (by decide) (fun _ _ _ _ _ => pg_name (i := 4) sc_cheap_offsets.nd rfl (by first | exact Or.inl rfl | exact Or.inr rfl)) ?_
  refine Tl.lc_fm (fun d => d) (chpP t j saw rs n) ?_
  refine Tl.pi_r1 m_range ?_
  refine Tl.pe_call g_step_of hr (by decide) ?_
  refine Tl.pa_cons ?_
  refine Tl.pe_nm 0 rfl ?_
  refine Tl.pa_nil ?_
  refine ⟨_, _, rfl, ?_⟩
  refine ⟨_, rfl, ⟨by omega, by omega⟩, ?_⟩
  refine ⟨(by rw [rngD_length]; omega), ?_, ?_⟩
  · skip
    intro d hd
    obtain ⟨i, hi, rfl⟩ := rngD_mem hd
    refine ⟨_, rfl, rfl, fun _ _ _ _ _ => ?_, fun hp _ _ _ _ _ => ?_⟩
    · skip
      refine Tl.pts_1 ?_
      refine Tl.pt_le ?_
      refine Tl.pe_call g_needed hr (by decide) ?_
      refine Tl.pa_cons ?_
      refine Tl.pe_nm 0 rfl ?_
      refine Tl.pa_cons ?_
      refine Tl.pe_nm 4 rfl ?_
      refine Tl.pa_cons ?_
      refine Tl.pe_nm 1 rfl ?_
      refine Tl.pa_cons ?_
      refine Tl.pe_nm 2 rfl ?_
      refine Tl.pa_nil ?_
      refine ⟨_, _, _, _, _, rfl, hK, hR2, ?_⟩
      refine Tl.pe_nm 3 rfl ?_
      refine ⟨_, _, rfl, rfl, ?_⟩
      rfl
    · skip
      refine Tl.pe_nm 4 rfl ?_
      rfl
  rw [chp_list]
  exact hr5 n rfl hn1 hn2

abbrev st_good_tiles : Stmt := topS 52
theorem sc_good_tiles : FnScope ["joint", "borders", "least", "low", "high", "tile"] ["joint", "borders", "least", "low", "high"] (defScope st_good_tiles) := ⟨rfl, rfl, rfl, by decide +kernel, rfl, by decide +kernel, by decide +kernel⟩
theorem ok_good_tiles {cl_InvalidBorder cl_InvalidNumber : Addr} (F : Df K mg "good_tiles" st_good_tiles ["joint", "borders", "least", "low", "high"]) (m_range : mg "range" = none) (c_MAX_JOINT : ∃ t, mg "MAX_JOINT" = some (.int 20 t)) (c_MAX_TILE : ∃ t, mg "MAX_TILE" = some (.int 500 t)) (g_need_number : Ok P w K mg base 2 "need_number" ["value", "low", "high"] (s_need_number cl_InvalidNumber)) (g_need_borders : Ok P w K mg base 3 "need_borders" ["value"] (s_need_borders cl_InvalidBorder)) (g_good_of : Ok P w K mg base 4 "good_of" ["kind", "borders", "least"] s_good_of) : Ok P w K mg base 5 "good_tiles" ["joint", "borders", "least", "low", "high"] (s_good_tiles cl_InvalidBorder cl_InvalidNumber) := by
  refine ok_of F sc_good_tiles (by decide) (by rintro _ _ _ ⟨jd, bd, ld, lod, hid, rfl, _⟩; rfl) ?_
  rintro f cdv A outer s H E _ k ex hr ⟨jd, bd, ld, lod, hid, rfl, hx, hr1⟩
  show Pss _ [.d jd, .d bd, .d ld, .d lod, .d hid, .un] _ _
  refine Tl.pss_cons ?_
  refine Tl.ps_expr ?_
  refine Tl.pe_call g_need_number hr (by decide) ?_
  refine Tl.pa_cons ?_
  refine Tl.pe_nm 0 rfl ?_
  refine Tl.pa_cons ?_
  refine Tl.pe_i ?_
  refine Tl.pa_cons ?_
  refine Tl.pe_gi c_MAX_JOINT.choose_spec ?_
  refine Tl.pa_nil ?_
  refine ⟨_, _, _, rfl, fun g1 => ?_, hx⟩
  obtain ⟨j, rfl, hj1, hj2⟩ := isIntD_iff.mp g1
  obtain ⟨hx2, hr2⟩ := hr1 j rfl hj1 hj2
  refine Tl.pss_cons ?_
  refine Tl.ps_expr ?_
  refine Tl.pe_call g_need_borders hr (by decide) ?_
  refine Tl.pa_cons ?_
  refine Tl.pe_nm 1 rfl ?_
  refine Tl.pa_nil ?_
  refine ⟨_, rfl, fun g2 => ?_, hx2⟩
  obtain ⟨ds, rfl, hB⟩ := isBordersD_iff.mp g2
  have hB1 := hB.lo; have hB2 := hB.hi; have hB3 := hB.all
  obtain ⟨hx3, hr3⟩ := hr2 ds rfl hB
  refine Tl.pss_cons ?_
  refine Tl.ps_expr ?_
  refine Tl.pe_call g_need_number hr (by decide) ?_
  refine Tl.pa_cons ?_
  refine Tl.pe_nm 2 rfl ?_
  refine Tl.pa_cons ?_
  refine Tl.pe_i ?_
  refine Tl.pa_cons ?_
  refine Tl.pe_gi c_MAX_TILE.choose_spec ?_
  refine Tl.pa_nil ?_
  refine ⟨_, _, _, rfl, fun g3 => ?_, hx3⟩
  obtain ⟨l, rfl, hl1, hl2⟩ := isIntD_iff.mp g3
  obtain ⟨hx4, hr4⟩ := hr3 l rfl hl1 hl2
  refine Tl.pss_cons ?_
  refine Tl.ps_expr ?_
  refine Tl.pe_call g_need_number hr (by decide) ?_
  refine Tl.pa_cons ?_
  refine Tl.pe_nm 3 rfl ?_
  refine Tl.pa_cons ?_
  refine Tl.pe_nm 2 rfl ?_
  refine Tl.pa_cons ?_
  refine Tl.pe_gi c_MAX_TILE.choose_spec ?_
  refine Tl.pa_nil ?_
  refine ⟨_, _, _, rfl, fun g4 => ?_, hx4⟩
  obtain ⟨lo, rfl, hlo1, hlo2⟩ := isIntD_iff.mp g4
  obtain ⟨hx5, hr5⟩ := hr4 lo rfl hlo1 hlo2
  refine Tl.pss_cons ?_
  refine Tl.ps_expr ?_
  refine Tl.pe_call g_need_number hr (by decide) ?_
  refine Tl.pa_cons ?_
  refine Tl.pe_nm 4 rfl ?_
  refine Tl.pa_cons ?_
  refine Tl.pe_nm 3 rfl ?_
  refine Tl.pa_cons ?_
  refine Tl.pe_gi c_MAX_TILE.choose_spec ?_
  refine Tl.pa_nil ?_
  refine ⟨_, _, _, rfl, fun g5 => ?_, hx5⟩
  obtain ⟨hi, rfl, hi1, hi2⟩ := isIntD_iff.mp g5
  refine Tl.pss_one ?_
  refine Tl.ps_ret ?_
  refine Tl.pe_lc (own := [("tile", 5)]) (.nm 5) rfl sc_good_tiles.nd (show BlkOk ["joint", "borders", "least", "low", "high", "tile"] (defScope st_good_tiles) _ _ from blkOk_by (by decide +kernel)) (by decide) (fun _ _ _ _ _ => pg_name (i := 5) sc_good_tiles.nd rfl (by first | exact Or.inl rfl | exact Or.inr rfl)) ?_
  refine Tl.lc_fm (fun d => d) (fun d => match d with | .int t => !decide (good t j ds l = []) | _ => false) ?_
  refine Tl.pi_r2 m_range ?_
  refine Tl.pe_nm 3 rfl ?_
  refine Tl.pe_add ?_
  refine Tl.pe_nm 4 rfl ?_
  refine Tl.pe_i ?_
  refine ⟨_, _, rfl, rfl, ?_⟩
  refine ⟨_, _, rfl, rfl, ⟨by omega, by omega, by omega, by omega⟩, ?_⟩
  refine ⟨(by rw [rngD_length]; omega), ?_, ?_⟩
  · skip
    intro d hd
    obtain ⟨i, hi, rfl⟩ := rngD_mem hd
    refine ⟨_, rfl, rfl, fun _ _ _ _ _ => ?_, fun hp _ _ _ _ _ => ?_⟩
    · skip
      refine Tl.pts_1 ?_
      refine Tl.pt_ne hr.units ?_
      refine Tl.pe_call g_good_of hr (by decide) ?_
      refine Tl.pa_cons ?_
      refine Tl.pe_tp ?_
      refine Tl.pa_cons ?_
      refine Tl.pe_nm 5 rfl ?_
      refine Tl.pa_cons ?_
      refine Tl.pe_nm 0 rfl ?_
      refine Tl.pa_nil ?_
      refine ⟨[_, _], rfl, (by first | decide | (simp; done)), ?_⟩
      refine Tl.pa_cons ?_
      refine Tl.pe_nm 1 rfl ?_
      refine Tl.pa_cons ?_
      refine Tl.pe_nm 2 rfl ?_
      refine Tl.pa_nil ?_
      refine ⟨_, _, _, _, rfl, ⟨by omega, by omega, by omega, by omega⟩, hB3, by omega, ?_⟩
      refine Tl.pe_ls ?_
      refine Tl.pa_nil ?_
      refine ⟨[], rfl, (by first | decide | (simp; done)), ?_⟩
      refine ⟨(by first | rfl | assumption | exact ints_shaped _ | exact shaped_side _ | decide +kernel), ints_nil_shaped, ?_⟩
      rw [eqv_nil]
    · skip
      refine Tl.pe_nm 5 rfl ?_
      rfl
  exact (congrArg k (gtl_list j ds l lo hi)).mpr (hr5 hi rfl hi1 hi2)

abbrev st_free_places : Stmt := topS 53
theorem sc_free_places : FnScope ["kind", "borders", "least", "side", "good", "found", "place", "widths", "offset", "width"] ["kind", "borders", "least", "side"] (defScope st_free_places) := ⟨rfl, rfl, rfl, by decide +kernel, rfl, by decide +kernel, by decide +kernel⟩
theorem ok_free_places {cl_InvalidBorder cl_InvalidKind cl_InvalidNumber cl_InvalidSide : Addr} (F : Df K mg "free_places" st_free_places ["kind", "borders", "least", "side"]) (m_all : mg "all" = none) (m_range : mg "range" = none) (g_need_kind : Ok P w K mg base 3 "need_kind" ["value"] (s_need_kind cl_InvalidKind)) (g_need_borders : Ok P w K mg base 3 "need_borders" ["value"] (s_need_borders cl_InvalidBorder)) (g_need_number : Ok P w K mg base 2 "need_number" ["value", "low", "high"] (s_need_number cl_InvalidNumber)) (g_is_side : Ok P w K mg base 1 "is_side" ["value"] s_is_side) (g_good_of : Ok P w K mg base 4 "good_of" ["kind", "borders", "least"] s_good_of) (g_step_of : Ok P w K mg base 1 "step_of" ["kind"] s_step_of) (g_width_of : Ok P w K mg base 2 "width_of" ["kind", "offset", "border"] s_width_of) (x_InvalidSide : XF K mg "InvalidSide" cl_InvalidSide) : Ok P w K mg base 5 "free_places" ["kind", "borders", "least", "side"] (s_free_places cl_InvalidKind cl_InvalidBorder cl_InvalidNumber cl_InvalidSide) := by
  refine ok_of F sc_free_places (by decide) (by rintro _ _ _ ⟨kd, bd, ld, sd, rfl, _⟩; rfl) ?_
  rintro f cdv A outer s H E _ k ex hr ⟨kd, bd, ld, sd, rfl, hx, hr1⟩
  show Pss _ [.d kd, .d bd, .d ld, .d sd, .un, .un, .un, .un, .un, .un] _ _
  refine Tl.pss_cons ?_
  refine Tl.ps_expr ?_
  refine Tl.pe_call g_need_kind hr (by decide) ?_
  refine Tl.pa_cons ?_
  refine Tl.pe_nm 0 rfl ?_
  refine Tl.pa_nil ?_
  refine ⟨_, rfl, fun g1 => ?_, hx⟩
  obtain ⟨t, j, rfl, hK⟩ := isKindD_iff.mp g1
  obtain ⟨hx2, hr2⟩ := hr1 t j rfl hK
  have hK1 := hK.t1; have hK2 := hK.t2; have hK3 := hK.j1; have hK4 := hK.j2
  refine Tl.pss_cons ?_
  refine Tl.ps_expr ?_
  refine Tl.pe_call g_need_borders hr (by decide) ?_
  refine Tl.pa_cons ?_
  refine Tl.pe_nm 1 rfl ?_
  refine Tl.pa_nil ?_
  refine ⟨_, rfl, fun g2 => ?_, hx2⟩
  obtain ⟨ds, rfl, hB⟩ := isBordersD_iff.mp g2
  have hB1 := hB.lo; have hB2 := hB.hi; have hB3 := hB.all
  obtain ⟨hx3, hr3⟩ := hr2 ds rfl hB
  refine Tl.pss_cons ?_
  refine Tl.ps_expr ?_
  refine Tl.pe_call g_need_number hr (by decide) ?_
  refine Tl.pa_cons ?_
  refine Tl.pe_nm 2 rfl ?_
  refine Tl.pa_cons ?_
  refine Tl.pe_i ?_
  refine Tl.pa_cons ?_
  refine Tl.pe_at ?_
  refine Tl.pe_nm 0 rfl ?_
  refine ⟨_, _, rfl, rfl, ?_⟩
  refine Tl.pa_nil ?_
  refine ⟨_, _, _, rfl, fun g3 => ?_, hx3⟩
  obtain ⟨l, rfl, hl1, hl2⟩ := isIntD_iff.mp g3
  obtain ⟨hx4, hr4⟩ := hr3 l rfl hl1 hl2
  refine Tl.pss_cons ?_
  refine Tl.ps_if ?_
  refine Tl.pt_not ?_
  refine Tl.pt_e ?_
  refine Tl.pe_call g_is_side hr (by decide) ?_
  refine Tl.pa_cons ?_
  refine Tl.pe_nm 3 rfl ?_
  refine Tl.pa_nil ?_
  refine ⟨_, rfl, ?_⟩
  refine ⟨_, rfl, ?_⟩
  refine iteB (fun hs => ?_) (fun hs => ?_)
  · skip
    try simp only [eqv_int, eqv_side, eqv_sideL, Bool.not_eq_true, Bool.not_eq_false, decide_eq_true_eq, decide_eq_false_iff_not, Bool.not_eq_true', Bool.not_eq_false'] at hs
    refine Tl.pss_cons ?_
    refine Tl.ps_raise rfl PySem.F.excBase_ValueError x_InvalidSide.exc x_InvalidSide.glob x_InvalidSide.kp (raises_own x_InvalidSide.base x_InvalidSide.typ) rfl ?_
    exact hx4 hs
  · skip
    try simp only [eqv_int, eqv_side, eqv_sideL, Bool.not_eq_true, Bool.not_eq_false, decide_eq_true_eq, decide_eq_false_iff_not, Bool.not_eq_true', Bool.not_eq_false'] at hs
    refine Tl.pss_nil ?_
    obtain ⟨rt, rfl⟩ := isSideD_iff.mp hs
    have hgl := good_length t j ds l
    refine Tl.pss_cons ?_
    refine Tl.ps_parO (i := 4) (j := 5) rfl sc_free_places.nd (by decide) (by first | rfl | with_unfolding_all rfl) ?_
    refine Tl.pe_call g_good_of hr (by decide) ?_
    refine Tl.pa_cons ?_
    refine Tl.pe_nm 0 rfl ?_
    refine Tl.pa_cons ?_
    refine Tl.pe_nm 1 rfl ?_
    refine Tl.pa_cons ?_
    refine Tl.pe_nm 2 rfl ?_
    refine Tl.pa_nil ?_
    refine ⟨_, _, _, _, rfl, hK, ‹_›, by omega, ?_⟩
    intro q1
    refine Tl.pss_cons ?_
    refine @Tl.ps_for _ _ _ _ _ _ _ (.nm 6) (passes_of rfl) rfl (pg_name (i := 6) sc_free_places.nd rfl (by first | exact Or.inl rfl | exact Or.inr rfl)) ?_ (by intro _; rfl)
    refine Tl.pi_r1 m_range ?_
    refine Tl.pe_call g_step_of hr (by decide) ?_
    refine Tl.pa_cons ?_
    refine Tl.pe_nm 0 rfl ?_
    refine Tl.pa_nil ?_
    refine ⟨_, _, rfl, ?_⟩
    refine ⟨_, rfl, ⟨by omega, by omega⟩, ?_⟩
    refine ⟨fun i δ => ∃ (s_place s_widths : Slot) (q : Addr), δ = [.d (kD t j), .d (.tuple ds), .d (.int l), .d (.str (sideS rt)), .d (intsD (good t j ds l)), .own q ((fil (freeP t j ds l rt) i).map PyData.int), s_place, s_widths, .un, .un] ∧ True, ⟨_, _, _, rfl, trivial⟩, ?_, ?_⟩
    · skip
      rintro i d δ1 hd ⟨s_place, s_widths, q, rfl, _⟩
      obtain ⟨hi, rfl⟩ := rngD_get hd
      have hfl := fil_len (freeP t j ds l rt) i
      refine ⟨_, rfl, ?_⟩
      refine Tl.pss_cons ?_
      refine Tl.ps_asLc (own := [("offset", 8)]) 7 (.nm 8) rfl sc_free_places.nd (show BlkOk ["kind", "borders", "least", "side", "good", "found", "place", "widths", "offset", "width"] (defScope st_free_places) _ _ from blkOk_by (by decide +kernel)) (by decide) (fun _ _ _ _ _ => pg_name (i := 8) sc_free_places.nd rfl (by first | exact Or.inl rfl | exact Or.inr rfl)) (sw_true rfl rfl rfl (by decide +kernel)) ?_
      refine Tl.lc_mp (fun d => match d with | .int o => .int (width t j o (0 + (i : Nat)) rt) | _ => .none) ?_
      refine Tl.pi_l ?_
      refine Tl.pe_nm 4 rfl ?_
      refine ⟨_, rfl, ?_⟩
      refine ⟨(by rw [List.length_map]; omega), ?_, ?_⟩
      · skip
        intro d hd
        obtain ⟨o, ho, rfl⟩ := ints_mem hd
        refine ⟨_, rfl, rfl, fun _ _ _ _ _ => ?_⟩
        refine Tl.pe_call g_width_of hr (by decide) ?_
        refine Tl.pa_cons ?_
        refine Tl.pe_nm 0 rfl ?_
        refine Tl.pa_cons ?_
        refine Tl.pe_nm 8 rfl ?_
        refine Tl.pa_cons ?_
        refine Tl.pe_tp ?_
        refine Tl.pa_cons ?_
        refine Tl.pe_nm 6 rfl ?_
        refine Tl.pa_cons ?_
        refine Tl.pe_nm 3 rfl ?_
        refine Tl.pa_nil ?_
        refine ⟨[_, _], rfl, (by first | decide | (simp; done)), ?_⟩
        refine Tl.pa_nil ?_
        refine ⟨_, _, _, _, _, rfl, by omega, ?_⟩
        rfl
      refine Tl.pss_cons ?_
      refine Tl.ps_if ?_
      refine Tl.pt_not ?_
      refine Tl.pt_e ?_
      refine Tl.pe_all rfl m_all ?_
      refine Tl.pe_lc (own := [("width", 9)]) (.nm 9) rfl sc_free_places.nd (show BlkOk ["kind", "borders", "least", "side", "good", "found", "place", "widths", "offset", "width"] (defScope st_free_places) _ _ from blkOk_by (by decide +kernel)) (by decide) (fun _ _ _ _ _ => pg_name (i := 9) sc_free_places.nd rfl (by first | exact Or.inl rfl | exact Or.inr rfl)) ?_
      refine Tl.lc_mp (fun d => match d with | .int w => .bool (inl l w) | _ => .none) ?_
      refine Tl.pi_l ?_
      refine Tl.pe_nm 7 rfl ?_
      refine ⟨_, rfl, ?_⟩
      refine ⟨(by rw [List.length_map, List.length_map]; omega), ?_, ?_⟩
      · skip
        intro d hd
        obtain ⟨d2, hd2, rfl⟩ := List.mem_map.mp hd
        obtain ⟨o, ho, rfl⟩ := ints_mem hd2
        refine ⟨_, rfl, rfl, fun _ _ _ _ _ => ?_⟩
        refine Tl.pe_ch op_lt op_lt ?_
        refine Tl.pe_i ?_
        refine Tl.pe_nm 9 rfl ?_
        refine ⟨_, _, rfl, rfl, ?_⟩
        refine iteB (fun h2 => ?_) (fun h2 => ?_)
        all_goals (try simp only [decide_eq_true_eq, decide_eq_false_iff_not] at h2)
        · skip
          refine Tl.pe_nm 2 rfl ?_
          refine ⟨_, rfl, ?_⟩
          exact congrArg PyData.bool (by unfold inl; first | (simp_all; done) | (simp_all; omega))
        · skip
          exact congrArg PyData.bool (by unfold inl; first | (simp_all; done) | (simp_all; omega))
      refine ⟨_, (show _ = PyData.list (((good t j ds l).map fun o => inl l (width t j o (0 + (i : Nat)) rt)).map PyData.bool) by simp only [List.map_map]; rfl), ?_⟩
      refine ⟨_, rfl, ?_⟩
      refine iteB (fun hP => ?_) (fun hP => ?_)
      · skip
        try simp only [eqv_int, eqv_side, eqv_sideL, Bool.not_eq_true, Bool.not_eq_false, decide_eq_true_eq, decide_eq_false_iff_not, Bool.not_eq_true', Bool.not_eq_false'] at hP
        have hP : freeP t j ds l rt i = true := by unfold freeP; rw [Int.zero_add] at hP; rw [hP]; rfl
        refine Tl.pss_cons ?_
        refine Tl.ps_app 5 rfl ?_ (hap := fun tt h => pe_bm PySem.F.plainAttrs_list PySem.F.slot_list_append PySem.F.type_list_append mt_append (pv 5) (L2.pa_cons h L2.pa_nil))
        refine Tl.pe_nm 6 rfl ?_
        refine ⟨(by rw [List.length_map]; omega), ?_⟩
        refine Tl.pss_nil ?_
        refine Tl.pss_nil ?_
        try rw [fil_dt hP]
        exact ⟨_, _, _, rfl, trivial⟩
      · skip
        try simp only [eqv_int, eqv_side, eqv_sideL, Bool.not_eq_true, Bool.not_eq_false, decide_eq_true_eq, decide_eq_false_iff_not, Bool.not_eq_true', Bool.not_eq_false'] at hP
        have hP : freeP t j ds l rt i = false := by unfold freeP; rw [Int.zero_add] at hP; rw [hP]; rfl
        rw [← fil_f hP]
        refine Tl.pss_nil ?_
        refine Tl.pss_nil ?_
        try rw [fil_dt hP]
        exact ⟨_, _, _, rfl, trivial⟩
    · skip
      rintro δ1 ⟨s_place, s_widths, q, rfl, _⟩
      rw [rngD_length]
      refine Tl.pss_freeze 5 rfl ?_
      refine Tl.pss_one ?_
      refine Tl.ps_ret ?_
      refine Tl.pe_nm 5 rfl ?_
      exact hr4 rt rfl

abbrev st_needless_borders : Stmt := topS 54
theorem sc_needless_borders : FnScope ["kind", "borders", "least", "good", "found", "index"] ["kind", "borders", "least"] (defScope st_needless_borders) := ⟨rfl, rfl, rfl, by decide +kernel, rfl, by decide +kernel, by decide +kernel⟩
theorem ok_needless_borders {cl_InvalidBorder cl_InvalidKind cl_InvalidNumber : Addr} (F : Df K mg "needless_borders" st_needless_borders ["kind", "borders", "least"]) (m_len : mg "len" = none) (m_range : mg "range" = none) (g_need_kind : Ok P w K mg base 3 "need_kind" ["value"] (s_need_kind cl_InvalidKind)) (g_need_borders : Ok P w K mg base 3 "need_borders" ["value"] (s_need_borders cl_InvalidBorder)) (g_need_number : Ok P w K mg base 2 "need_number" ["value", "low", "high"] (s_need_number cl_InvalidNumber)) (g_good_of : Ok P w K mg base 4 "good_of" ["kind", "borders", "least"] s_good_of) : Ok P w K mg base 5 "needless_borders" ["kind", "borders", "least"] (s_needless_borders cl_InvalidKind cl_InvalidBorder cl_InvalidNumber) := by
  refine ok_of F sc_needless_borders (by decide) (by rintro _ _ _ ⟨kd, bd, ld, rfl, _⟩; rfl) ?_
  rintro f cdv A outer s H E _ k ex hr ⟨kd, bd, ld, rfl, hx, hr1⟩
  show Pss _ [.d kd, .d bd, .d ld, .un, .un, .un] _ _
  refine Tl.pss_cons ?_
  refine Tl.ps_expr ?_
  refine Tl.pe_call g_need_kind hr (by decide) ?_
  refine Tl.pa_cons ?_
  refine Tl.pe_nm 0 rfl ?_
  refine Tl.pa_nil ?_
  refine ⟨_, rfl, fun g1 => ?_, hx⟩
  obtain ⟨t, j, rfl, hK⟩ := isKindD_iff.mp g1
  obtain ⟨hx2, hr2⟩ := hr1 t j rfl hK
  have hK1 := hK.t1; have hK2 := hK.t2; have hK3 := hK.j1; have hK4 := hK.j2
  refine Tl.pss_cons ?_
  refine Tl.ps_expr ?_
  refine Tl.pe_call g_need_borders hr (by decide) ?_
  refine Tl.pa_cons ?_
  refine Tl.pe_nm 1 rfl ?_
  refine Tl.pa_nil ?_
  refine ⟨_, rfl, fun g2 => ?_, hx2⟩
  obtain ⟨ds, rfl, hB⟩ := isBordersD_iff.mp g2
  have hB1 := hB.lo; have hB2 := hB.hi; have hB3 := hB.all
  obtain ⟨hx3, hr3⟩ := hr2 ds rfl hB
  refine Tl.pss_cons ?_
  refine Tl.ps_expr ?_
  refine Tl.pe_call g_need_number hr (by decide) ?_
  refine Tl.pa_cons ?_
  refine Tl.pe_nm 2 rfl ?_
  refine Tl.pa_cons ?_
  refine Tl.pe_i ?_
  refine Tl.pa_cons ?_
  refine Tl.pe_at ?_
  refine Tl.pe_nm 0 rfl ?_
  refine ⟨_, _, rfl, rfl, ?_⟩
  refine Tl.pa_nil ?_
  refine ⟨_, _, _, rfl, fun g3 => ?_, hx3⟩
  obtain ⟨l, rfl, hl1, hl2⟩ := isIntD_iff.mp g3
  refine Tl.pss_cons ?_
  refine Tl.ps_parO (i := 3) (j := 4) rfl sc_needless_borders.nd (by decide) (by first | rfl | with_unfolding_all rfl) ?_
  refine Tl.pe_call g_good_of hr (by decide) ?_
  refine Tl.pa_cons ?_
  refine Tl.pe_nm 0 rfl ?_
  refine Tl.pa_cons ?_
  refine Tl.pe_nm 1 rfl ?_
  refine Tl.pa_cons ?_
  refine Tl.pe_nm 2 rfl ?_
  refine Tl.pa_nil ?_
  refine ⟨_, _, _, _, rfl, hK, ‹_›, by omega, ?_⟩
  intro q1
  refine Tl.pss_cons ?_
  refine @Tl.ps_for _ _ _ _ _ _ _ (.nm 5) (passes_of rfl) rfl (pg_name (i := 5) sc_needless_borders.nd rfl (by first | exact Or.inl rfl | exact Or.inr rfl)) ?_ (by intro _; rfl)
  refine Tl.pi_r1 m_range ?_
  refine Tl.pe_len m_len ?_
  refine Tl.pe_nm 1 rfl ?_
  refine ⟨_, .inr rfl, ?_⟩
  refine ⟨_, rfl, ⟨by omega, by omega⟩, ?_⟩
  refine ⟨fun i δ => ∃ (s_index : Slot) (q : Addr), δ = [.d (kD t j), .d (.tuple ds), .d (.int l), .d (intsD (good t j ds l)), .own q ((fil (ndlP t j ds l) i).map PyData.int), s_index] ∧ True, ⟨_, _, rfl, trivial⟩, ?_, ?_⟩
  · skip
    rintro i d δ1 hd ⟨s_index, q, rfl, _⟩
    obtain ⟨hi, rfl⟩ := rngD_get hd
    rw [Int.toNat_natCast] at hi
    have hfl := fil_len (ndlP t j ds l) i
    refine ⟨_, rfl, ?_⟩
    refine Tl.pss_cons ?_
    refine Tl.ps_if ?_
    refine Tl.pt_eq hr.units ?_
    refine Tl.pe_call g_good_of hr (by decide) ?_
    refine Tl.pa_cons ?_
    refine Tl.pe_nm 0 rfl ?_
    refine Tl.pa_cons ?_
    refine cutE (.tuple (rmv ds i)) ?_ ?_
    · skip
      refine Tl.pe_catT ?_
      refine Tl.pe_slT ?_
      refine Tl.pe_nm 1 rfl ?_
      refine Tl.po_no ?_
      refine Tl.po_so ?_
      refine Tl.pe_nm 5 rfl ?_
      refine ⟨_, rfl, ?_⟩
      refine ⟨_, rfl, ?_⟩
      refine Tl.pe_slT ?_
      refine Tl.pe_nm 1 rfl ?_
      refine Tl.po_so ?_
      refine Tl.pe_add ?_
      refine Tl.pe_nm 5 rfl ?_
      refine Tl.pe_i ?_
      refine ⟨_, _, rfl, rfl, ?_⟩
      refine ⟨_, rfl, ?_⟩
      refine Tl.po_no ?_
      refine ⟨_, rfl, ?_⟩
      refine ⟨_, _, rfl, rfl, (by rw [cutD_to (by omega), cutD_from (by omega), List.length_take, List.length_drop]; omega), ?_⟩
      rw [cutD_to (by omega), cutD_from (by omega), show (0 + (i : Int)).toNat = i by omega, show (0 + (i : Int) + 1).toNat = i + 1 by omega]
      rfl
    refine Tl.pa_cons ?_
    refine Tl.pe_nm 2 rfl ?_
    refine Tl.pa_nil ?_
    refine ⟨_, _, _, _, rfl, hK, rmv_all hB3, by have := rmv_len (ds := ds) (i := i); omega, ?_⟩
    refine Tl.pe_nm 3 rfl ?_
    refine ⟨(by first | rfl | assumption | exact ints_shaped _ | exact shaped_side _ | decide +kernel), (by first | rfl | assumption | exact ints_shaped _ | exact shaped_side _ | decide +kernel), ?_⟩
    refine iteB (fun hP => ?_) (fun hP => ?_)
    · skip
      try simp only [eqv_int, eqv_side, eqv_sideL, Bool.not_eq_true, Bool.not_eq_false, decide_eq_true_eq, decide_eq_false_iff_not, Bool.not_eq_true', Bool.not_eq_false'] at hP
      rw [eqv_ints] at hP
      have hP : ndlP t j ds l i = true := hP
      refine Tl.pss_cons ?_
      refine Tl.ps_app 4 rfl ?_ (hap := fun tt h => pe_bm PySem.F.plainAttrs_list PySem.F.slot_list_append PySem.F.type_list_append mt_append (pv 4) (L2.pa_cons h L2.pa_nil))
      refine Tl.pe_nm 5 rfl ?_
      refine ⟨(by rw [List.length_map]; omega), ?_⟩
      refine Tl.pss_nil ?_
      refine Tl.pss_nil ?_
      try rw [fil_dt hP]
      exact ⟨_, _, rfl, trivial⟩
    · skip
      try simp only [eqv_int, eqv_side, eqv_sideL, Bool.not_eq_true, Bool.not_eq_false, decide_eq_true_eq, decide_eq_false_iff_not, Bool.not_eq_true', Bool.not_eq_false'] at hP
      rw [eqv_ints] at hP
      have hP : ndlP t j ds l i = false := hP
      rw [← fil_f hP]
      refine Tl.pss_nil ?_
      refine Tl.pss_nil ?_
      try rw [fil_dt hP]
      exact ⟨_, _, rfl, trivial⟩
  · skip
    rintro δ1 ⟨s_index, q, rfl, _⟩
    rw [rngD_length, Int.toNat_natCast]
    refine Tl.pss_freeze 4 rfl ?_
    refine Tl.pss_one ?_
    refine Tl.ps_ret ?_
    refine Tl.pe_nm 4 rfl ?_
    exact hr3 l rfl hl1 hl2

abbrev st_is_seen : Stmt := topS 56
theorem sc_is_seen : FnScope ["value"] ["value"] (defScope st_is_seen) := ⟨rfl, rfl, rfl, by decide +kernel, rfl, by decide +kernel, by decide +kernel⟩
theorem ok_is_seen (F : Df K mg "is_seen" st_is_seen ["value"]) (c_MAX_TILE : ∃ t, mg "MAX_TILE" = some (.int 500 t)) (g_is_pair : Ok P w K mg base 1 "is_pair" ["value"] s_is_pair) (g_is_border : Ok P w K mg base 2 "is_border" ["value"] s_is_border) (g_is_integer : Ok P w K mg base 1 "is_integer" ["value", "low", "high"] s_is_integer) : Ok P w K mg base 3 "is_seen" ["value"] s_is_seen := by
  refine ok_of F sc_is_seen (by decide) (by rintro _ _ _ ⟨v, rfl, _⟩; rfl) ?_
  rintro f cdv A outer s H E _ k ex hr ⟨v, rfl, hk⟩
  show Pss _ [.d v] _ _
  refine Tl.pss_one ?_
  refine Tl.ps_ret ?_
  refine cutE (.bool (isSeenD v)) ?_ ?_
  · skip
    refine Tl.pe_and ?_
    refine Tl.pe_call g_is_pair hr (by decide) ?_
    refine Tl.pa_cons ?_
    refine Tl.pe_nm 0 rfl ?_
    refine Tl.pa_nil ?_
    refine ⟨_, rfl, ?_⟩
    refine ⟨_, rfl, ?_⟩
    refine iteB (fun h1 => ?_) (fun h1 => ?_)
    · skip
      try simp only [eqv_int, eqv_side, eqv_sideL, Bool.not_eq_true, Bool.not_eq_false, decide_eq_true_eq, decide_eq_false_iff_not, Bool.not_eq_true', Bool.not_eq_false'] at h1
      obtain ⟨a, b, rfl⟩ := isPairD_iff.mp ‹isPairD v = true›
      refine Tl.pe_and ?_
      refine Tl.pe_call g_is_border hr (by decide) ?_
      refine Tl.pa_cons ?_
      refine Tl.pe_at ?_
      refine Tl.pe_nm 0 rfl ?_
      refine ⟨_, _, rfl, rfl, ?_⟩
      refine Tl.pa_nil ?_
      refine ⟨_, rfl, ?_⟩
      refine ⟨_, rfl, ?_⟩
      refine iteB (fun h2 => ?_) (fun h2 => ?_)
      · skip
        try simp only [eqv_int, eqv_side, eqv_sideL, Bool.not_eq_true, Bool.not_eq_false, decide_eq_true_eq, decide_eq_false_iff_not, Bool.not_eq_true', Bool.not_eq_false'] at h2
        refine Tl.pe_1 ?_
        refine Tl.pe_call g_is_integer hr (by decide) ?_
        refine Tl.pa_cons ?_
        refine Tl.pe_at ?_
        refine Tl.pe_nm 0 rfl ?_
        refine ⟨_, _, rfl, rfl, ?_⟩
        refine Tl.pa_cons ?_
        refine Tl.pe_i ?_
        refine Tl.pa_cons ?_
        refine Tl.pe_gi c_MAX_TILE.choose_spec ?_
        refine Tl.pa_nil ?_
        refine ⟨_, _, _, rfl, ?_⟩
        first | (simp_all [isSeenD]; done) | exact congrArg PyData.bool (no_pair_seen ‹_›).symm
      · skip
        try simp only [eqv_int, eqv_side, eqv_sideL, Bool.not_eq_true, Bool.not_eq_false, decide_eq_true_eq, decide_eq_false_iff_not, Bool.not_eq_true', Bool.not_eq_false'] at h2
        first | (simp_all [isSeenD]; done) | exact congrArg PyData.bool (no_pair_seen ‹_›).symm
    · skip
      try simp only [eqv_int, eqv_side, eqv_sideL, Bool.not_eq_true, Bool.not_eq_false, decide_eq_true_eq, decide_eq_false_iff_not, Bool.not_eq_true', Bool.not_eq_false'] at h1
      first | (simp_all [isSeenD]; done) | exact congrArg PyData.bool (no_pair_seen ‹_›).symm
  exact hk

abbrev st_need_seen : Stmt := topS 57
theorem sc_need_seen : FnScope ["value", "one"] ["value"] (defScope st_need_seen) := ⟨rfl, rfl, rfl, by decide +kernel, rfl, by decide +kernel, by decide +kernel⟩
theorem ok_need_seen {cl_InvalidSeen : Addr} (F : Df K mg "need_seen" st_need_seen ["value"]) (m_all : mg "all" = none) (m_isinstance : mg "isinstance" = none) (m_len : mg "len" = none) (m_tuple : mg "tuple" = none) (g_is_seen : Ok P w K mg base 3 "is_seen" ["value"] s_is_seen) (x_InvalidSeen : XF K mg "InvalidSeen" cl_InvalidSeen) : Ok P w K mg base 4 "need_seen" ["value"] (s_need_seen cl_InvalidSeen) := by
  refine ok_of F sc_need_seen (by decide) (by rintro _ _ _ ⟨v, rfl, _⟩; rfl) ?_
  rintro f cdv A outer s H E _ k ex hr ⟨v, rfl, hk, hx⟩
  show Pss _ [.d v, .un] _ _
  refine Tl.pss_cons ?_
  refine Tl.ps_if ?_
  refine Tl.pt_w ?_
  refine Tl.pw_or ?_
  refine Tl.pt_not ?_
  refine Tl.pt_e ?_
  refine Tl.pe_isi kit_tuple (by decide +kernel) m_isinstance m_tuple ?_
  refine Tl.pe_nm 0 rfl ?_
  refine ⟨_, rfl, ?_⟩
  refine iteB (fun h1 => ?_) (fun h1 => ?_)
  · skip
    try simp only [eqv_int, eqv_side, eqv_sideL, Bool.not_eq_true, Bool.not_eq_false, decide_eq_true_eq, decide_eq_false_iff_not, Bool.not_eq_true', Bool.not_eq_false'] at h1
    refine iteYes ?_
    refine Tl.pss_cons ?_
    refine Tl.ps_raise rfl PySem.F.excBase_ValueError x_InvalidSeen.exc x_InvalidSeen.glob x_InvalidSeen.kp (raises_own x_InvalidSeen.base x_InvalidSeen.typ) rfl ?_
    exact hx (by first | (cases v <;> simp_all [isSeensD]; done) | (simp_all [isSeensD]; done) | (simp_all [isSeensD]; omega) | (simp only [isSeensD]; simp_all; omega))
  · skip
    try simp only [eqv_int, eqv_side, eqv_sideL, Bool.not_eq_true, Bool.not_eq_false, decide_eq_true_eq, decide_eq_false_iff_not, Bool.not_eq_true', Bool.not_eq_false'] at h1
    obtain ⟨xs, rfl⟩ : ∃ xs, v = .tuple xs := by cases v <;> simp_all
    refine Tl.pw_or ?_
    refine Tl.pt_not ?_
    refine Tl.pt_ch op_le op_le ?_
    refine Tl.pe_i ?_
    refine Tl.pe_len m_len ?_
    refine Tl.pe_nm 0 rfl ?_
    refine ⟨_, .inr rfl, ?_⟩
    refine ⟨_, _, rfl, rfl, ?_⟩
    refine iteB (fun h2 => ?_) (fun h2 => ?_)
    all_goals (try simp only [decide_eq_true_eq, decide_eq_false_iff_not] at h2)
    · skip
      refine Tl.pe_i ?_
      refine ⟨_, rfl, ?_⟩
      refine iteB (fun h3 => ?_) (fun h3 => ?_)
      · skip
        try simp only [eqv_int, eqv_side, eqv_sideL, Bool.not_eq_true, Bool.not_eq_false, decide_eq_true_eq, decide_eq_false_iff_not, Bool.not_eq_true', Bool.not_eq_false'] at h3
        refine iteYes ?_
        refine Tl.pss_cons ?_
        refine Tl.ps_raise rfl PySem.F.excBase_ValueError x_InvalidSeen.exc x_InvalidSeen.glob x_InvalidSeen.kp (raises_own x_InvalidSeen.base x_InvalidSeen.typ) rfl ?_
        exact hx (by first | (cases v <;> simp_all [isSeensD]; done) | (simp_all [isSeensD]; done) | (simp_all [isSeensD]; omega) | (simp only [isSeensD]; simp_all; omega))
      · skip
        try simp only [eqv_int, eqv_side, eqv_sideL, Bool.not_eq_true, Bool.not_eq_false, decide_eq_true_eq, decide_eq_false_iff_not, Bool.not_eq_true', Bool.not_eq_false'] at h3
        refine Tl.pw_or1 ?_
        refine Tl.pt_not ?_
        refine Tl.pt_e ?_
        refine Tl.pe_all rfl m_all ?_
        refine Tl.pe_lc (own := [("one", 1)]) (.nm 1) rfl sc_need_seen.nd (show BlkOk ["value", "one"] (defScope st_need_seen) _ _ from blkOk_by (by decide +kernel)) (by decide) (fun _ _ _ _ _ => pg_name (i := 1) sc_need_seen.nd rfl (by first | exact Or.inl rfl | exact Or.inr rfl)) ?_
        refine Tl.lc_mp (fun d => .bool (isSeenD d)) ?_
        refine Tl.pi_t ?_
        refine Tl.pe_nm 0 rfl ?_
        refine ⟨_, rfl, ?_⟩
        refine ⟨(by first | decide | (simp; done) | (simp; omega) | omega), ?_, ?_⟩
        · skip
          intro d hd
          refine ⟨_, rfl, rfl, fun _ _ _ _ _ => ?_⟩
          refine Tl.pe_call g_is_seen hr (by decide) ?_
          refine Tl.pa_cons ?_
          refine Tl.pe_nm 1 rfl ?_
          refine Tl.pa_nil ?_
          refine ⟨_, rfl, ?_⟩
          rfl
        refine ⟨_, (show PyData.list (List.map (fun d => PyData.bool (isSeenD d)) xs) = .list ((xs.map isSeenD).map .bool) by rw [List.map_map]; rfl), ?_⟩
        refine ⟨_, rfl, ?_⟩
        refine iteB (fun h4 => ?_) (fun h4 => ?_)
        · skip
          try simp only [eqv_int, eqv_side, eqv_sideL, Bool.not_eq_true, Bool.not_eq_false, decide_eq_true_eq, decide_eq_false_iff_not, Bool.not_eq_true', Bool.not_eq_false'] at h4
          refine Tl.pss_cons ?_
          refine Tl.ps_raise rfl PySem.F.excBase_ValueError x_InvalidSeen.exc x_InvalidSeen.glob x_InvalidSeen.kp (raises_own x_InvalidSeen.base x_InvalidSeen.typ) rfl ?_
          exact hx (by first | (cases v <;> simp_all [isSeensD]; done) | (simp_all [isSeensD]; done) | (simp_all [isSeensD]; omega) | (simp only [isSeensD]; simp_all; omega))
        · skip
          try simp only [eqv_int, eqv_side, eqv_sideL, Bool.not_eq_true, Bool.not_eq_false, decide_eq_true_eq, decide_eq_false_iff_not, Bool.not_eq_true', Bool.not_eq_false'] at h4
          refine Tl.pss_nil ?_
          refine Tl.pss_nil ?_
          exact hk (by simp only [isSeensD, Bool.and_eq_true, decide_eq_true_eq]; simp_all)
    · skip
      refine iteYes ?_
      refine iteYes ?_
      refine Tl.pss_cons ?_
      refine Tl.ps_raise rfl PySem.F.excBase_ValueError x_InvalidSeen.exc x_InvalidSeen.glob x_InvalidSeen.kp (raises_own x_InvalidSeen.base x_InvalidSeen.typ) rfl ?_
      exact hx (by first | (cases v <;> simp_all [isSeensD]; done) | (simp_all [isSeensD]; done) | (simp_all [isSeensD]; omega) | (simp only [isSeensD]; simp_all; omega))

abbrev st_offsets_of : Stmt := topS 58
theorem sc_offsets_of : FnScope ["kind", "seen", "found", "offset", "border", "width"] ["kind", "seen"] (defScope st_offsets_of) := ⟨rfl, rfl, rfl, by decide +kernel, rfl, by decide +kernel, by decide +kernel⟩
theorem ok_offsets_of (F : Df K mg "offsets_of" st_offsets_of ["kind", "seen"]) (m_all : mg "all" = none) (m_range : mg "range" = none) (g_step_of : Ok P w K mg base 1 "step_of" ["kind"] s_step_of) (g_width_of : Ok P w K mg base 2 "width_of" ["kind", "offset", "border"] s_width_of) : Ok P w K mg base 3 "offsets_of" ["kind", "seen"] s_offsets_of := by
  refine ok_of F sc_offsets_of (by decide) (by rintro _ _ _ ⟨t, j, ds, rfl, _⟩; rfl) ?_
  rintro f cdv A outer s H E _ k ex hr ⟨t, j, ds, rfl, hK, hB, hl, hk⟩
  show Pss _ [.d (kD t j), .d (.tuple ds), .un, .un, .un, .un] _ _
  have hK1 := hK.t1; have hK2 := hK.t2; have hK3 := hK.j1; have hK4 := hK.j2
  refine Tl.pss_cons ?_
  refine Tl.ps_own 2 sc_offsets_of.nd ?_
  refine Tl.pa_nil ?_
  refine ⟨[], rfl, (by decide), fun q1 => ?_⟩
  refine Tl.pss_cons ?_
  refine @Tl.ps_for _ _ _ _ _ _ _ (.nm 3) (passes_of rfl) rfl (pg_name (i := 3) sc_offsets_of.nd rfl (by first | exact Or.inl rfl | exact Or.inr rfl)) ?_ (by intro _; rfl)
  refine Tl.pi_r1 m_range ?_
  refine Tl.pe_call g_step_of hr (by decide) ?_
  refine Tl.pa_cons ?_
  refine Tl.pe_nm 0 rfl ?_
  refine Tl.pa_nil ?_
  refine ⟨_, _, rfl, ?_⟩
  refine ⟨_, rfl, ⟨by omega, by omega⟩, ?_⟩
  refine ⟨fun i δ => ∃ (s_offset : Slot) (q : Addr), δ = [.d (kD t j), .d (.tuple ds), .own q ((fil (offsP t j ds) i).map PyData.int), s_offset, .un, .un] ∧ True, ⟨_, _, rfl, trivial⟩, ?_, ?_⟩
  · skip
    rintro i d δ1 hd ⟨s_offset, q, rfl, _⟩
    obtain ⟨hi, rfl⟩ := rngD_get hd
    have hfl := fil_len (offsP t j ds) i
    refine ⟨_, rfl, ?_⟩
    refine Tl.pss_cons ?_
    refine Tl.ps_if ?_
    refine Tl.pt_e ?_
    refine Tl.pe_all rfl m_all ?_
    refine Tl.pe_lc (own := [("border", 4), ("width", 5)]) (.tp [4, 5]) rfl sc_offsets_of.nd (show BlkOk ["kind", "seen", "found", "offset", "border", "width"] (defScope st_offsets_of) _ _ from blkOk_by (by decide +kernel)) (by decide) (fun _ _ _ _ _ => pg_tup rfl (pgs_cons (pg_name (i := 4) sc_offsets_of.nd rfl (by first | exact Or.inl rfl | exact Or.inr rfl)) (pgs_cons (pg_name (i := 5) sc_offsets_of.nd rfl (by first | exact Or.inl rfl | exact Or.inr rfl)) pgs_nil))) ?_
    refine Tl.lc_mp (fun d => .bool (fitD t j (0 + (i : Nat)) d)) ?_
    refine Tl.pi_t ?_
    refine Tl.pe_nm 1 rfl ?_
    refine ⟨_, rfl, ?_⟩
    refine ⟨(by first | decide | (simp; done) | (simp; omega) | omega), ?_, ?_⟩
    · skip
      intro d hd
      obtain ⟨p, rt, w, rfl, hp, hw1, hw2⟩ := hB d hd
      refine ⟨_, rfl, rfl, fun _ _ _ _ _ => ?_⟩
      refine Tl.pe_eq hr.units ?_
      refine Tl.pe_call g_width_of hr (by decide) ?_
      refine Tl.pa_cons ?_
      refine Tl.pe_nm 0 rfl ?_
      refine Tl.pa_cons ?_
      refine Tl.pe_nm 3 rfl ?_
      refine Tl.pa_cons ?_
      refine Tl.pe_nm 4 rfl ?_
      refine Tl.pa_nil ?_
      refine ⟨_, _, _, _, _, rfl, by omega, ?_⟩
      refine Tl.pe_nm 5 rfl ?_
      refine ⟨(by first | rfl | assumption | exact ints_shaped _ | exact shaped_side _ | decide +kernel), (by first | rfl | assumption | exact ints_shaped _ | exact shaped_side _ | decide +kernel), ?_⟩
      exact congrArg PyData.bool (by rw [eqv_int, fitD_sD])
    refine ⟨_, (show _ = PyData.list ((ds.map (fitD t j (0 + (i : Nat)))).map PyData.bool) by rw [List.map_map]; rfl), ?_⟩
    refine ⟨_, rfl, ?_⟩
    refine iteB (fun hP => ?_) (fun hP => ?_)
    · skip
      try simp only [eqv_int, eqv_side, eqv_sideL, Bool.not_eq_true, Bool.not_eq_false, decide_eq_true_eq, decide_eq_false_iff_not, Bool.not_eq_true', Bool.not_eq_false'] at hP
      have hP : offsP t j ds i = true := by unfold offsP; rw [Int.zero_add, List.all_map] at hP; exact hP
      refine Tl.pss_cons ?_
      refine Tl.ps_app 2 rfl ?_ (hap := fun tt h => pe_bm PySem.F.plainAttrs_list PySem.F.slot_list_append PySem.F.type_list_append mt_append (pv 2) (L2.pa_cons h L2.pa_nil))
      refine Tl.pe_nm 3 rfl ?_
      refine ⟨(by rw [List.length_map]; omega), ?_⟩
      refine Tl.pss_nil ?_
      refine Tl.pss_nil ?_
      try rw [fil_dt hP]
      exact ⟨_, _, rfl, trivial⟩
    · skip
      try simp only [eqv_int, eqv_side, eqv_sideL, Bool.not_eq_true, Bool.not_eq_false, decide_eq_true_eq, decide_eq_false_iff_not, Bool.not_eq_true', Bool.not_eq_false'] at hP
      have hP : offsP t j ds i = false := by unfold offsP; rw [Int.zero_add, List.all_map] at hP; exact hP
      rw [← fil_f hP]
      refine Tl.pss_nil ?_
      refine Tl.pss_nil ?_
      try rw [fil_dt hP]
      exact ⟨_, _, rfl, trivial⟩
  · skip
    rintro δ1 ⟨s_offset, q, rfl, _⟩
    rw [rngD_length]
    refine Tl.pss_freeze 2 rfl ?_
    refine Tl.pss_one ?_
    refine Tl.ps_ret ?_
    refine Tl.pe_nm 2 rfl ?_
    exact hk

abbrev st_offsets_for : Stmt := topS 59
theorem sc_offsets_for : FnScope ["kind", "seen"] ["kind", "seen"] (defScope st_offsets_for) := ⟨rfl, rfl, rfl, by decide +kernel, rfl, by decide +kernel, by decide +kernel⟩
theorem ok_offsets_for {cl_InvalidKind cl_InvalidSeen : Addr} (F : Df K mg "offsets_for" st_offsets_for ["kind", "seen"]) (g_need_kind : Ok P w K mg base 3 "need_kind" ["value"] (s_need_kind cl_InvalidKind)) (g_need_seen : Ok P w K mg base 4 "need_seen" ["value"] (s_need_seen cl_InvalidSeen)) (g_offsets_of : Ok P w K mg base 3 "offsets_of" ["kind", "seen"] s_offsets_of) : Ok P w K mg base 5 "offsets_for" ["kind", "seen"] (s_offsets_for cl_InvalidKind cl_InvalidSeen) := by
  refine ok_of F sc_offsets_for (by decide) (by rintro _ _ _ ⟨kd, sd, rfl, _⟩; rfl) ?_
  rintro f cdv A outer s H E _ k ex hr ⟨kd, sd, rfl, hx, hr1⟩
  show Pss _ [.d kd, .d sd] _ _
  refine Tl.pss_cons ?_
  refine Tl.ps_expr ?_
  refine Tl.pe_call g_need_kind hr (by decide) ?_
  refine Tl.pa_cons ?_
  refine Tl.pe_nm 0 rfl ?_
  refine Tl.pa_nil ?_
  refine ⟨_, rfl, fun g1 => ?_, hx⟩
  obtain ⟨t, j, rfl, hK⟩ := isKindD_iff.mp g1
  obtain ⟨hx2, hr2⟩ := hr1 t j rfl hK
  have hK1 := hK.t1; have hK2 := hK.t2; have hK3 := hK.j1; have hK4 := hK.j2
  refine Tl.pss_cons ?_
  refine Tl.ps_expr ?_
  refine Tl.pe_call g_need_seen hr (by decide) ?_
  refine Tl.pa_cons ?_
  refine Tl.pe_nm 1 rfl ?_
  refine Tl.pa_nil ?_
  refine ⟨_, rfl, fun g2 => ?_, hx2⟩
  obtain ⟨ds, rfl, hB⟩ := isSeensD_iff.mp g2
  have hB1 := hB.lo; have hB2 := hB.hi; have hB3 := hB.all
  refine Tl.pss_one ?_
  refine Tl.ps_ret ?_
  refine Tl.pe_call g_offsets_of hr (by decide) ?_
  refine Tl.pa_cons ?_
  refine Tl.pe_nm 0 rfl ?_
  refine Tl.pa_cons ?_
  refine Tl.pe_nm 1 rfl ?_
  refine Tl.pa_nil ?_
  refine ⟨_, _, _, rfl, ‹_›, ‹_›, by omega, ?_⟩
  exact hr2 ds rfl hB

abbrev st_law_cell_at : Stmt := topS 63
theorem sc_law_cell_at : FnScope ["script", "k"] ["script", "k"] (defScope st_law_cell_at) := ⟨rfl, rfl, rfl, by decide +kernel, rfl, by decide +kernel, by decide +kernel⟩
theorem ok_law_cell_at (F : Df K mg "_law_cell_at" st_law_cell_at ["script", "k"]) (m_len : mg "len" = none) : Ok P w K mg base 1 "_law_cell_at" ["script", "k"] s_law_cell_at := by
  refine ok_of F sc_law_cell_at (by decide) (by rintro _ _ _ ⟨ns, i, rfl, _⟩; rfl) ?_
  rintro f cdv A outer s H E _ k ex hr ⟨ns, i, rfl, hi, hk⟩
  show Pss _ [.scr ns, .d (.int i)] _ _
  refine Tl.pss_cons ?_
  refine Tl.ps_if ?_
  refine Tl.pt_lt ?_
  refine Tl.pe_nm 1 rfl ?_
  refine Tl.pe_lenS 0 m_len rfl ?_
  refine ⟨_, _, rfl, rfl, ?_⟩
  refine iteB (fun h1 => ?_) (fun h1 => ?_)
  · skip
    try simp only [eqv_int, eqv_side, eqv_sideL, Bool.not_eq_true, Bool.not_eq_false, decide_eq_true_eq, decide_eq_false_iff_not, Bool.not_eq_true', Bool.not_eq_false'] at h1
    refine Tl.pss_one ?_
    refine Tl.ps_ret ?_
    refine Tl.pe_ixS 0 rfl ?_
    refine Tl.pe_nm 1 rfl ?_
    exact ⟨_, rfl, by omega, by omega, fun m => hk m⟩
  · skip
    try simp only [eqv_int, eqv_side, eqv_sideL, Bool.not_eq_true, Bool.not_eq_false, decide_eq_true_eq, decide_eq_false_iff_not, Bool.not_eq_true', Bool.not_eq_false'] at h1
    refine Tl.pss_nil ?_
    refine Tl.pss_one ?_
    refine Tl.ps_ret ?_
    refine Tl.pe_i ?_
    exact hk _

abbrev st_law_draws : Stmt := topS 64
theorem sc_law_draws : FnScope ["cell", "many", "size", "found", "rest", "stirred", "k"] ["cell", "many", "size"] (defScope st_law_draws) := ⟨rfl, rfl, rfl, by decide +kernel, rfl, by decide +kernel, by decide +kernel⟩
theorem ok_law_draws (F : Df K mg "_law_draws" st_law_draws ["cell", "many", "size"]) (m_int : mg "int" = none) (m_range : mg "range" = none) : Ok P w K mg base 1 "_law_draws" ["cell", "many", "size"] s_law_draws := by
  refine ok_of F sc_law_draws (by decide) (by rintro _ _ _ ⟨c, rfl, _⟩; rfl) ?_
  rintro f cdv A outer s H E _ k ex hr ⟨c, rfl, hk⟩
  show Pss _ [.d (.int c), .d (.int 400), .d (.int 1000), .un, .un, .un, .un] _ _
  refine Tl.pss_cons ?_
  refine Tl.ps_own 3 sc_law_draws.nd ?_
  refine Tl.pa_nil ?_
  refine ⟨[], rfl, (by decide), fun q1 => ?_⟩
  refine Tl.pss_cons ?_
  refine Tl.ps_as 4 sc_law_draws.nd ?_
  refine Tl.pe_mul ?_
  refine Tl.pe_nm 0 rfl ?_
  refine Tl.pe_int m_int ?_
  refine Tl.pe_ge ?_
  refine Tl.pe_nm 0 rfl ?_
  refine Tl.pe_powc (v := 1000000000000000000) ⟨by decide, by decide, by decide⟩ (by decide) ?_
  refine ⟨_, _, rfl, rfl, ?_⟩
  refine ⟨_, rfl, ?_⟩
  refine ⟨_, _, rfl, rfl, (.inr (by split <;> exact ⟨by decide, by decide⟩)), ?_⟩
  refine Tl.pss_cons ?_
  refine Tl.ps_as 5 sc_law_draws.nd ?_
  refine Tl.pe_mod ?_
  refine Tl.pe_nm 0 rfl ?_
  refine Tl.pe_i ?_
  refine ⟨_, _, rfl, rfl, (by omega), ?_⟩
  refine Tl.pss_cons ?_
  refine @Tl.ps_for _ _ _ _ _ _ _ (.nm 6) (passes_of rfl) rfl (pg_name (i := 6) sc_law_draws.nd rfl (by first | exact Or.inl rfl | exact Or.inr rfl)) ?_ (by intro _; rfl)
  refine Tl.pi_r1 m_range ?_
  refine Tl.pe_add ?_
  refine Tl.pe_nm 1 rfl ?_
  refine Tl.pe_i ?_
  refine ⟨_, _, rfl, rfl, ?_⟩
  refine ⟨_, rfl, ⟨by omega, by omega⟩, ?_⟩
  refine ⟨fun j δ => ∃ (q : Addr) (ds : List D) (r s : Int) (sl : Slot), δ = [.d (.int c), .d (.int 400), .d (.int 1000), .own q ds, .d (.int r), .d (.int s), sl] ∧ sl.ow = none ∧ AllInt ds ∧ ds.length = j - 3 ∧ 0 ≤ s ∧ s < 2305843009213693951, ⟨_, [], _, _, _, rfl, rfl, .nil, rfl, by omega, by omega⟩, ?_, ?_⟩
  · skip
    rintro j d δ1 hd ⟨q, ds, r, s, sl, rfl, hsl, hA, hl, hs1, hs2⟩
    obtain ⟨hj, rfl⟩ := rngD_get hd
    refine ⟨_, rfl, ?_⟩
    show Pss _ [.d (.int c), .d (.int 400), .d (.int 1000), .own q ds, .d (.int r), .d (.int s), .d (.int (0 + (j : Nat)))] _ _
    refine Tl.pss_cons ?_
    refine Tl.ps_as 5 sc_law_draws.nd ?_
    refine Tl.pe_mod ?_
    refine Tl.pe_add ?_
    refine Tl.pe_add ?_
    refine Tl.pe_add ?_
    refine Tl.pe_mul ?_
    refine Tl.pe_nm 5 rfl ?_
    refine Tl.pe_nm 5 rfl ?_
    refine ⟨_, _, rfl, rfl, (by first | exact .inl ⟨by omega, by omega⟩ | exact .inr ⟨by omega, by omega⟩), ?_⟩
    refine Tl.pe_mul ?_
    refine Tl.pe_i ?_
    refine Tl.pe_nm 5 rfl ?_
    refine ⟨_, _, rfl, rfl, (by first | exact .inl ⟨by omega, by omega⟩ | exact .inr ⟨by omega, by omega⟩), ?_⟩
    refine ⟨_, _, rfl, rfl, ?_⟩
    refine Tl.pe_nm 6 rfl ?_
    refine ⟨_, _, rfl, rfl, ?_⟩
    refine Tl.pe_i ?_
    refine ⟨_, _, rfl, rfl, ?_⟩
    refine Tl.pe_i ?_
    refine ⟨_, _, rfl, rfl, (by omega), ?_⟩
    refine Tl.pss_cons ?_
    refine Tl.ps_if ?_
    refine Tl.pt_w ?_
    refine Tl.pw_and ?_
    refine Tl.pt_gt ?_
    refine Tl.pe_nm 6 rfl ?_
    refine Tl.pe_i ?_
    refine ⟨_, _, rfl, rfl, ?_⟩
    refine iteB (fun h2 => ?_) (fun h2 => ?_)
    · skip
      try simp only [eqv_int, eqv_side, eqv_sideL, Bool.not_eq_true, Bool.not_eq_false, decide_eq_true_eq, decide_eq_false_iff_not, Bool.not_eq_true', Bool.not_eq_false'] at h2
      refine Tl.pw_and1 ?_
      refine Tl.pt_gt ?_
      refine Tl.pe_nm 4 rfl ?_
      refine Tl.pe_i ?_
      refine ⟨_, _, rfl, rfl, ?_⟩
      refine iteB (fun h3 => ?_) (fun h3 => ?_)
      · skip
        try simp only [eqv_int, eqv_side, eqv_sideL, Bool.not_eq_true, Bool.not_eq_false, decide_eq_true_eq, decide_eq_false_iff_not, Bool.not_eq_true', Bool.not_eq_false'] at h3
        refine Tl.pss_cons ?_
        refine Tl.ps_app 3 rfl ?_ (hap := fun tt h => pe_bm PySem.F.plainAttrs_list PySem.F.slot_list_append PySem.F.type_list_append mt_append (pv 3) (L2.pa_cons h L2.pa_nil))
        refine Tl.pe_mod ?_
        refine Tl.pe_nm 4 rfl ?_
        refine Tl.pe_nm 2 rfl ?_
        refine ⟨_, _, rfl, rfl, (by omega), ?_⟩
        refine ⟨(by first | decide | (simp; done) | (simp; omega) | omega), ?_⟩
        refine Tl.pss_cons ?_
        refine Tl.ps_as 4 sc_law_draws.nd ?_
        refine Tl.pe_fdiv ?_
        refine Tl.pe_nm 4 rfl ?_
        refine Tl.pe_nm 2 rfl ?_
        refine ⟨_, _, rfl, rfl, ⟨by omega, by omega⟩, ?_⟩
        refine Tl.pss_nil ?_
        refine Tl.pss_nil ?_
        exact ⟨_, _, _, _, _, rfl, rfl, by first | exact hA.snoc | exact hA, by (try simp only [List.length_append, List.length_singleton]); omega, by omega, by omega⟩
      · skip
        try simp only [eqv_int, eqv_side, eqv_sideL, Bool.not_eq_true, Bool.not_eq_false, decide_eq_true_eq, decide_eq_false_iff_not, Bool.not_eq_true', Bool.not_eq_false'] at h3
        refine Tl.pss_cons ?_
        refine Tl.ps_if ?_
        refine Tl.pt_gt ?_
        refine Tl.pe_nm 6 rfl ?_
        refine Tl.pe_i ?_
        refine ⟨_, _, rfl, rfl, ?_⟩
        refine iteB (fun h4 => ?_) (fun h4 => ?_)
        · skip
          try simp only [eqv_int, eqv_side, eqv_sideL, Bool.not_eq_true, Bool.not_eq_false, decide_eq_true_eq, decide_eq_false_iff_not, Bool.not_eq_true', Bool.not_eq_false'] at h4
          refine Tl.pss_cons ?_
          refine Tl.ps_app 3 rfl ?_ (hap := fun tt h => pe_bm PySem.F.plainAttrs_list PySem.F.slot_list_append PySem.F.type_list_append mt_append (pv 3) (L2.pa_cons h L2.pa_nil))
          refine Tl.pe_mod ?_
          refine Tl.pe_fdiv ?_
          refine Tl.pe_nm 5 rfl ?_
          refine Tl.pe_i ?_
          refine ⟨_, _, rfl, rfl, ⟨by omega, by omega⟩, ?_⟩
          refine Tl.pe_nm 2 rfl ?_
          refine ⟨_, _, rfl, rfl, (by omega), ?_⟩
          refine ⟨(by first | decide | (simp; done) | (simp; omega) | omega), ?_⟩
          refine Tl.pss_nil ?_
          refine Tl.pss_nil ?_
          refine Tl.pss_nil ?_
          exact ⟨_, _, _, _, _, rfl, rfl, by first | exact hA.snoc | exact hA, by (try simp only [List.length_append, List.length_singleton]); omega, by omega, by omega⟩
        · skip
          try simp only [eqv_int, eqv_side, eqv_sideL, Bool.not_eq_true, Bool.not_eq_false, decide_eq_true_eq, decide_eq_false_iff_not, Bool.not_eq_true', Bool.not_eq_false'] at h4
          refine Tl.pss_nil ?_
          refine Tl.pss_nil ?_
          refine Tl.pss_nil ?_
          exact ⟨_, _, _, _, _, rfl, rfl, by first | exact hA.snoc | exact hA, by (try simp only [List.length_append, List.length_singleton]); omega, by omega, by omega⟩
    · skip
      try simp only [eqv_int, eqv_side, eqv_sideL, Bool.not_eq_true, Bool.not_eq_false, decide_eq_true_eq, decide_eq_false_iff_not, Bool.not_eq_true', Bool.not_eq_false'] at h2
      refine iteNo ?_
      refine Tl.pss_cons ?_
      refine Tl.ps_if ?_
      refine Tl.pt_gt ?_
      refine Tl.pe_nm 6 rfl ?_
      refine Tl.pe_i ?_
      refine ⟨_, _, rfl, rfl, ?_⟩
      refine iteB (fun h5 => ?_) (fun h5 => ?_)
      · skip
        try simp only [eqv_int, eqv_side, eqv_sideL, Bool.not_eq_true, Bool.not_eq_false, decide_eq_true_eq, decide_eq_false_iff_not, Bool.not_eq_true', Bool.not_eq_false'] at h5
        refine Tl.pss_cons ?_
        refine Tl.ps_app 3 rfl ?_ (hap := fun tt h => pe_bm PySem.F.plainAttrs_list PySem.F.slot_list_append PySem.F.type_list_append mt_append (pv 3) (L2.pa_cons h L2.pa_nil))
        refine Tl.pe_mod ?_
        refine Tl.pe_fdiv ?_
        refine Tl.pe_nm 5 rfl ?_
        refine Tl.pe_i ?_
        refine ⟨_, _, rfl, rfl, ⟨by omega, by omega⟩, ?_⟩
        refine Tl.pe_nm 2 rfl ?_
        refine ⟨_, _, rfl, rfl, (by omega), ?_⟩
        refine ⟨(by first | decide | (simp; done) | (simp; omega) | omega), ?_⟩
        refine Tl.pss_nil ?_
        refine Tl.pss_nil ?_
        refine Tl.pss_nil ?_
        exact ⟨_, _, _, _, _, rfl, rfl, by first | exact hA.snoc | exact hA, by (try simp only [List.length_append, List.length_singleton]); omega, by omega, by omega⟩
      · skip
        try simp only [eqv_int, eqv_side, eqv_sideL, Bool.not_eq_true, Bool.not_eq_false, decide_eq_true_eq, decide_eq_false_iff_not, Bool.not_eq_true', Bool.not_eq_false'] at h5
        refine Tl.pss_nil ?_
        refine Tl.pss_nil ?_
        refine Tl.pss_nil ?_
        exact ⟨_, _, _, _, _, rfl, rfl, by first | exact hA.snoc | exact hA, by (try simp only [List.length_append, List.length_singleton]); omega, by omega, by omega⟩
  · skip
    rintro δ1 ⟨q, ds, r, s, sl, rfl, hsl, hA, hl, _, _⟩
    refine Tl.pss_freeze 3 rfl ?_
    refine Tl.pss_one ?_
    refine Tl.ps_ret ?_
    refine Tl.pe_nm 3 rfl ?_
    rw [rngD_length] at hl
    exact hk _ hA (fun z => by rw [z] at hl; simp at hl) (by omega)

abbrev st_law_bag : Stmt := topS 65
theorem sc_law_bag : FnScope ["script", "k"] ["script", "k"] (defScope st_law_bag) := ⟨rfl, rfl, rfl, by decide +kernel, rfl, by decide +kernel, by decide +kernel⟩
theorem ok_law_bag (F : Df K mg "_law_bag" st_law_bag ["script", "k"]) (g_law_draws : Ok P w K mg base 1 "_law_draws" ["cell", "many", "size"] s_law_draws) (g_law_cell_at : Ok P w K mg base 1 "_law_cell_at" ["script", "k"] s_law_cell_at) : OkBag P w K mg base 2 := by
  refine bag_fn F sc_law_bag rfl ?_
  intro f cdv A outer s H E ns i hr hi
  refine Tl.pa_cons ?_
  refine Tl.pe_call g_law_draws hr (by decide) ?_
  refine Tl.pa_cons ?_
  refine Tl.pe_call g_law_cell_at hr (by decide) ?_
  refine Tl.pa_scr 0 rfl ?_
  refine Tl.pa_cons ?_
  refine Tl.pe_nm 1 rfl ?_
  refine Tl.pa_nil ?_
  refine ⟨_, _, rfl, by omega, fun r1 => ?_⟩
  refine Tl.pa_cons ?_
  refine Tl.pe_i ?_
  refine Tl.pa_cons ?_
  refine Tl.pe_i ?_
  refine Tl.pa_nil ?_
  refine ⟨_, rfl, fun d2 h3 h4 h5 => ?_⟩
  refine Tl.pa_cons ?_
  refine Tl.pe_i ?_
  refine Tl.pa_nil ?_
  exact ⟨_, rfl, ‹_›, ‹_›, ‹_›⟩

abbrev st_law_bags : Stmt := topS 66
theorem sc_law_bags : FnScope ["script", "limit", "k"] ["script", "limit"] (defScope st_law_bags) := ⟨rfl, rfl, rfl, by decide +kernel, rfl, by decide +kernel, by decide +kernel⟩
theorem ok_law_bags (F : Df K mg "_law_bags" st_law_bags ["script", "limit"]) (m_len : mg "len" = none) (m_max : mg "max" = none) (m_min : mg "min" = none) (m_range : mg "range" = none) (g_law_bag : OkBag P w K mg base 2) : OkBags P w K mg base 3 := by
  refine bags_fn F sc_law_bags g_law_bag (n := 2) (by decide) m_range rfl (by decide +kernel) (by decide +kernel) (by decide +kernel) (by decide +kernel) ?_ ?_ (fun _ => rfl) (fun _ => rfl) ?_
  · intro X hX C cl; simp only [Env.kindOf, compEnvC, relabel, hX]; rfl
  · intro X hX C cl; simp only [Env.kindOf, compEnvC, relabel, hX]; exact ⟨by first | exact .inl rfl | exact .inr (.inl rfl) | exact .inr (.inr rfl), by first | exact .inl rfl | exact .inr (.inl rfl) | exact .inr (.inr rfl), .inl rfl, rfl⟩
  intro f cdv A outer s H E ns i hr hi hi2
  refine Tl.pe_max2 rfl m_max ?_
  refine Tl.pe_i ?_
  refine Tl.pe_min2 rfl m_min ?_
  refine Tl.pe_nm 1 rfl ?_
  refine Tl.pe_lenS 0 m_len rfl ?_
  refine ⟨_, _, rfl, rfl, ?_⟩
  refine ⟨_, _, rfl, rfl, ?_⟩
  exact ⟨_, rfl, by omega, by omega⟩

abbrev st_law_take : Stmt := topS 67
theorem sc_law_take : FnScope ["bag", "many"] ["bag", "many"] (defScope st_law_take) := ⟨rfl, rfl, rfl, by decide +kernel, rfl, by decide +kernel, by decide +kernel⟩
theorem ok_law_take (F : Df K mg "_law_take" st_law_take ["bag", "many"]) (m_len : mg "len" = none) : Ok P w K mg base 1 "_law_take" ["bag", "many"] s_law_take := by
  refine ok_of F sc_law_take (by decide) (by rintro _ _ _ ⟨b, m, rfl, _⟩; rfl) ?_
  rintro f cdv A outer s H E _ k ex hr ⟨b, m, rfl, hm, hk⟩
  show Pss _ [.bag b, .d (.int m)] _ _
  refine Tl.pss_cons ?_
  refine Tl.ps_bag1 0 rfl ?_
  refine Tl.pe_add ?_
  refine Tl.pe_bag1 0 rfl fun n => ?_
  refine Tl.pe_i ?_
  refine ⟨_, _, rfl, rfl, ?_⟩
  refine ⟨_, rfl, ?_⟩
  refine Tl.pss_one ?_
  refine Tl.ps_ret ?_
  refine Tl.pe_mod ?_
  refine Tl.pe_draw 0 m_len rfl fun n => ?_
  refine Tl.pe_nm 1 rfl ?_
  refine ⟨_, _, rfl, rfl, (by omega), ?_⟩
  exact hk _ (Int.emod_nonneg _ (by omega)) (Int.emod_lt_of_pos _ hm)

abbrev st_law_evens : Stmt := topS 69
theorem sc_law_evens : FnScope ["tile", "rest", "width"] ["tile", "rest"] (defScope st_law_evens) := ⟨rfl, rfl, rfl, by decide +kernel, rfl, by decide +kernel, by decide +kernel⟩
theorem ok_law_evens (F : Df K mg "_law_evens" st_law_evens ["tile", "rest"]) (m_len : mg "len" = none) (m_range : mg "range" = none) : Ok P w K mg base 1 "_law_evens" ["tile", "rest"] s_law_evens := by
  refine ok_of F sc_law_evens (by decide) (by rintro _ _ _ ⟨t, r, rfl, _⟩; rfl) ?_
  rintro f cdv A outer s H E _ k ex hr ⟨t, r, rfl, ⟨ht, ht2⟩, hk⟩
  show Pss _ [.d (.int t), .d (.int r), .un] _ _
  refine Tl.pss_one ?_
  refine Tl.ps_ret ?_
  refine Tl.pe_len m_len ?_
  refine Tl.pe_lc (own := [("width", 2)]) (.nm 2) rfl sc_law_evens.nd (show BlkOk ["tile", "rest", "width"] (defScope st_law_evens) _ _ from blkOk_by (by decide +kernel)) (by decide) (fun _ _ _ _ _ => pg_name (i := 2) sc_law_evens.nd rfl (by first | exact Or.inl rfl | exact Or.inr rfl)) ?_
  refine Tl.lc_fm (fun d => d) (evsD t r) ?_
  refine Tl.pi_r2 m_range ?_
  refine Tl.pe_i ?_
  refine Tl.pe_add ?_
  refine Tl.pe_nm 0 rfl ?_
  refine Tl.pe_i ?_
  refine ⟨_, _, rfl, rfl, ?_⟩
  refine ⟨_, _, rfl, rfl, ⟨by omega, by omega, by omega, by omega⟩, ?_⟩
  refine ⟨(by rw [rngD_length]; omega), ?_, ?_⟩
  · skip
    intro d hd
    obtain ⟨i, hi, rfl⟩ := rngD_mem hd
    refine ⟨_, rfl, rfl, fun _ _ _ _ _ => ?_, fun hp _ _ _ _ _ => ?_⟩
    · skip
      refine Tl.pts_1 ?_
      refine Tl.pt_eq hr.units ?_
      refine Tl.pe_mod ?_
      refine Tl.pe_sub ?_
      refine Tl.pe_mul ?_
      refine Tl.pe_i ?_
      refine Tl.pe_nm 2 rfl ?_
      refine ⟨_, _, rfl, rfl, (by first | exact .inl ⟨by omega, by omega⟩ | exact .inr ⟨by omega, by omega⟩), ?_⟩
      refine Tl.pe_nm 1 rfl ?_
      refine ⟨_, _, rfl, rfl, ?_⟩
      refine Tl.pe_nm 0 rfl ?_
      refine ⟨_, _, rfl, rfl, (by omega), ?_⟩
      refine Tl.pe_i ?_
      refine ⟨(by first | rfl | assumption | exact ints_shaped _ | exact shaped_side _ | decide +kernel), (by first | rfl | assumption | exact ints_shaped _ | exact shaped_side _ | decide +kernel), ?_⟩
      exact eqv_int _ _
    · skip
      refine Tl.pe_nm 2 rfl ?_
      rfl
  refine ⟨_, .inl rfl, ?_⟩
  rw [evs_D]
  exact hk

abbrev st_law_opposite_right : Stmt := topS 68
theorem sc_law_opposite_right : FnScope ["tile", "rest", "borders", "kind", "due"] ["tile", "rest"] (defScope st_law_opposite_right) := ⟨rfl, rfl, rfl, by decide +kernel, rfl, by decide +kernel, by decide +kernel⟩
theorem ok_law_opposite_right {cl_InvalidBorder cl_InvalidKind cl_InvalidRow : Addr} (F : Df K mg "_law_opposite_right" st_law_opposite_right ["tile", "rest"]) (m_len : mg "len" = none) (m_max : mg "max" = none) (g_widest_least : Ok P w K mg base 5 "widest_least" ["kind", "borders"] (s_widest_least cl_InvalidKind cl_InvalidBorder)) (g_even_offsets : Ok P w K mg base 4 "even_offsets" ["kind", "row"] (s_even_offsets cl_InvalidKind cl_InvalidRow)) (g_law_evens : Ok P w K mg base 1 "_law_evens" ["tile", "rest"] s_law_evens) : Ok P w K mg base 6 "_law_opposite_right" ["tile", "rest"] s_law_opposite_right := by
  refine ok_of F sc_law_opposite_right (by decide) (by rintro _ _ _ ⟨t, r, rfl, _⟩; rfl) ?_
  rintro f cdv A outer s H E _ k ex hr ⟨t, r, rfl, ⟨ht, ht2⟩, ⟨hr0, hr1⟩, hk⟩
  show Pss _ [.d (.int t), .d (.int r), .un, .un, .un] _ _
  refine Tl.pss_cons ?_
  refine Tl.ps_par (i := 2) (j := 3) rfl sc_law_opposite_right.nd (by decide) (by first | rfl | with_unfolding_all rfl) ?_
  refine Tl.pe_tp ?_
  refine Tl.pa_cons ?_
  refine Tl.pe_tp ?_
  refine Tl.pa_cons ?_
  refine Tl.pe_i ?_
  refine Tl.pa_cons ?_
  refine Tl.pe_s ?_
  refine Tl.pa_nil ?_
  refine ⟨[_, _], rfl, (by first | decide | (simp; done)), ?_⟩
  refine Tl.pa_cons ?_
  refine Tl.pe_tp ?_
  refine Tl.pa_cons ?_
  refine Tl.pe_add ?_
  refine Tl.pe_mul ?_
  refine Tl.pe_i ?_
  refine Tl.pe_nm 0 rfl ?_
  refine ⟨_, _, rfl, rfl, (by first | exact .inl ⟨by omega, by omega⟩ | exact .inr ⟨by omega, by omega⟩), ?_⟩
  refine Tl.pe_nm 1 rfl ?_
  refine ⟨_, _, rfl, rfl, ?_⟩
  refine Tl.pa_cons ?_
  refine Tl.pe_s ?_
  refine Tl.pa_nil ?_
  refine ⟨[_, _], rfl, (by first | decide | (simp; done)), ?_⟩
  refine Tl.pa_nil ?_
  refine ⟨[_, _], rfl, (by first | decide | (simp; done)), ?_⟩
  refine Tl.pe_tp ?_
  refine Tl.pa_cons ?_
  refine Tl.pe_nm 0 rfl ?_
  refine Tl.pa_cons ?_
  refine Tl.pe_i ?_
  refine Tl.pa_nil ?_
  refine ⟨[_, _], rfl, (by first | decide | (simp; done)), ?_⟩
  refine Tl.pss_cons ?_
  refine Tl.ps_as 4 sc_law_opposite_right.nd ?_
  refine cutE (.int (if r = 0 then t else max r ((t + r) / 2))) ?_ ?_
  · skip
    refine Tl.pe_ife ?_
    refine Tl.pt_eq hr.units ?_
    refine Tl.pe_nm 1 rfl ?_
    refine Tl.pe_i ?_
    refine ⟨(by first | rfl | assumption | exact ints_shaped _ | exact shaped_side _ | decide +kernel), (by first | rfl | assumption | exact ints_shaped _ | exact shaped_side _ | decide +kernel), ?_⟩
    refine iteB (fun h1 => ?_) (fun h1 => ?_)
    · skip
      try simp only [eqv_int, eqv_side, eqv_sideL, Bool.not_eq_true, Bool.not_eq_false, decide_eq_true_eq, decide_eq_false_iff_not, Bool.not_eq_true', Bool.not_eq_false'] at h1
      refine Tl.pe_nm 0 rfl ?_
      first | (rw [if_pos (by assumption)]; done) | (rw [if_neg (by assumption)]; done) | (split <;> first | rfl | (exfalso; omega))
    · skip
      try simp only [eqv_int, eqv_side, eqv_sideL, Bool.not_eq_true, Bool.not_eq_false, decide_eq_true_eq, decide_eq_false_iff_not, Bool.not_eq_true', Bool.not_eq_false'] at h1
      refine Tl.pe_max2 rfl m_max ?_
      refine Tl.pe_nm 1 rfl ?_
      refine Tl.pe_fdiv ?_
      refine Tl.pe_add ?_
      refine Tl.pe_nm 0 rfl ?_
      refine Tl.pe_nm 1 rfl ?_
      refine ⟨_, _, rfl, rfl, ?_⟩
      refine Tl.pe_i ?_
      refine ⟨_, _, rfl, rfl, ⟨by omega, by omega⟩, ?_⟩
      refine ⟨_, _, rfl, rfl, ?_⟩
      first | (rw [if_pos (by assumption)]; done) | (rw [if_neg (by assumption)]; done) | (split <;> first | rfl | (exfalso; omega))
  refine Tl.pss_cons ?_
  refine Tl.ps_if ?_
  refine Tl.pt_ne hr.units ?_
  refine Tl.pe_call g_widest_least hr (by decide) ?_
  refine Tl.pa_cons ?_
  refine Tl.pe_nm 3 rfl ?_
  refine Tl.pa_cons ?_
  refine Tl.pe_nm 2 rfl ?_
  refine Tl.pa_nil ?_
  refine s_kb_ok (ds := opB t r) (show IsKind t 0 from ⟨by omega, by omega, by decide, by decide⟩) (op_all (by omega) hr0 (by omega) (by omega)) ?_
  rw [op_widest (by omega) (by omega) hr0 hr1]
  refine Tl.pe_nm 4 rfl ?_
  refine ⟨(by first | rfl | assumption | exact ints_shaped _ | exact shaped_side _ | decide +kernel), (by first | rfl | assumption | exact ints_shaped _ | exact shaped_side _ | decide +kernel), ?_⟩
  refine iteB (fun h2 => ?_) (fun h2 => ?_)
  · skip
    try simp only [eqv_int, eqv_side, eqv_sideL, Bool.not_eq_true, Bool.not_eq_false, decide_eq_true_eq, decide_eq_false_iff_not, Bool.not_eq_true', Bool.not_eq_false'] at h2
    first | exact absurd rfl h2 | exact absurd trivial h2
  · skip
    try simp only [eqv_int, eqv_side, eqv_sideL, Bool.not_eq_true, Bool.not_eq_false, decide_eq_true_eq, decide_eq_false_iff_not, Bool.not_eq_true', Bool.not_eq_false'] at h2
    refine Tl.pss_nil ?_
    refine Tl.pss_one ?_
    refine Tl.ps_ret ?_
    refine Tl.pe_eq hr.units ?_
    refine Tl.pe_len m_len ?_
    refine Tl.pe_call g_even_offsets hr (by decide) ?_
    refine Tl.pa_cons ?_
    refine Tl.pe_nm 3 rfl ?_
    refine Tl.pa_cons ?_
    refine Tl.pe_tp ?_
    refine Tl.pa_cons ?_
    refine Tl.pe_i ?_
    refine Tl.pa_cons ?_
    refine Tl.pe_add ?_
    refine Tl.pe_mul ?_
    refine Tl.pe_i ?_
    refine Tl.pe_nm 0 rfl ?_
    refine ⟨_, _, rfl, rfl, (by first | exact .inl ⟨by omega, by omega⟩ | exact .inr ⟨by omega, by omega⟩), ?_⟩
    refine Tl.pe_nm 1 rfl ?_
    refine ⟨_, _, rfl, rfl, ?_⟩
    refine Tl.pa_nil ?_
    refine ⟨[_, _], rfl, (by first | decide | (simp; done)), ?_⟩
    refine Tl.pa_nil ?_
    refine s_even_offsets_ok (show IsKind t 0 from ⟨by omega, by omega, by decide, by decide⟩) ⟨by omega, by omega, by omega, by omega, by omega⟩ ?_
    refine ⟨_, .inl rfl, ?_⟩
    refine Tl.pe_call g_law_evens hr (by decide) ?_
    refine Tl.pa_cons ?_
    refine Tl.pe_nm 0 rfl ?_
    refine Tl.pa_cons ?_
    refine Tl.pe_nm 1 rfl ?_
    refine Tl.pa_nil ?_
    refine ⟨_, _, rfl, ⟨by omega, by omega⟩, ?_⟩
    refine ⟨(by first | rfl | assumption | exact ints_shaped _ | exact shaped_side _ | decide +kernel), (by first | rfl | assumption | exact ints_shaped _ | exact shaped_side _ | decide +kernel), ?_⟩
    rw [eqv_int, List.length_map, op_evens (by omega) hr0 hr1, decide_eq_true rfl]
    exact hk

abbrev st_law_whole_right : Stmt := topS 70
theorem sc_law_whole_right : FnScope ["tile", "joint_so", "many", "length", "kind", "borders", "at", "row"] ["tile", "joint_so", "many"] (defScope st_law_whole_right) := ⟨rfl, rfl, rfl, by decide +kernel, rfl, by decide +kernel, by decide +kernel⟩
theorem ok_law_whole_right {cl_InvalidBorder cl_InvalidKind cl_InvalidNumber cl_InvalidOffset cl_InvalidRow : Addr} (F : Df K mg "_law_whole_right" st_law_whole_right ["tile", "joint_so", "many"]) (g_uncut_offsets : Ok P w K mg base 5 "uncut_offsets" ["kind", "borders"] (s_uncut_offsets cl_InvalidKind cl_InvalidBorder)) (g_widest_least : Ok P w K mg base 5 "widest_least" ["kind", "borders"] (s_widest_least cl_InvalidKind cl_InvalidBorder)) (g_row_pieces : Ok P w K mg base 4 "row_pieces" ["kind", "offset", "row"] (s_row_pieces cl_InvalidKind cl_InvalidOffset cl_InvalidRow)) (g_tiles_needed : Ok P w K mg base 6 "tiles_needed" ["kind", "offset", "rows", "saw"] (s_tiles_needed cl_InvalidKind cl_InvalidOffset cl_InvalidRow cl_InvalidNumber)) (g_fewest_tiles : Ok P w K mg base 6 "fewest_tiles" ["kind", "rows", "saw"] (s_fewest_tiles cl_InvalidKind cl_InvalidRow cl_InvalidNumber)) : Ok P w K mg base 7 "_law_whole_right" ["tile", "joint_so", "many"] s_law_whole_right := by
  refine ok_of F sc_law_whole_right (by decide) (by rintro _ _ _ ⟨t, j, n, rfl, _⟩; rfl) ?_
  rintro f cdv A outer s H E _ k ex hr ⟨t, j, n, rfl, ⟨ht, ht2⟩, ⟨hj0, hj1, hj2⟩, ⟨hn1, hn2⟩, hk⟩
  show Pss _ [.d (.int t), .d (.int j), .d (.int n), .un, .un, .un, .un, .un] _ _
  obtain ⟨hb1, hb2⟩ := wh_b (t := t) (j := j) (n := n) (by omega) (by omega) (by omega) (by omega) (by omega) (by omega)
  have hB := wh_borders (t := t) (j := j) (n := n) (by omega) (by omega) (by omega) (by omega) (by omega) (by omega)
  have h50 := mod_lo 5 (s := t + j) (by omega)
  have h51 := mod_hi 5 (s := t + j) (by omega)
  refine Tl.pss_cons ?_
  refine Tl.ps_as 3 sc_law_whole_right.nd ?_
  refine Tl.pe_sub ?_
  refine Tl.pe_mul ?_
  refine Tl.pe_nm 2 rfl ?_
  refine Tl.pe_add ?_
  refine Tl.pe_nm 0 rfl ?_
  refine Tl.pe_nm 1 rfl ?_
  refine ⟨_, _, rfl, rfl, ?_⟩
  refine ⟨_, _, rfl, rfl, (by first | exact .inl ⟨by omega, by omega⟩ | exact .inr ⟨by omega, by omega⟩), ?_⟩
  refine Tl.pe_nm 1 rfl ?_
  refine ⟨_, _, rfl, rfl, ?_⟩
  refine Tl.pss_cons ?_
  refine Tl.ps_par (i := 4) (j := 5) rfl sc_law_whole_right.nd (by decide) (by first | rfl | with_unfolding_all rfl) ?_
  refine Tl.pe_tp ?_
  refine Tl.pa_cons ?_
  refine Tl.pe_nm 0 rfl ?_
  refine Tl.pa_cons ?_
  refine Tl.pe_nm 1 rfl ?_
  refine Tl.pa_nil ?_
  refine ⟨[_, _], rfl, (by first | decide | (simp; done)), ?_⟩
  refine Tl.pe_tp ?_
  refine Tl.pa_cons ?_
  refine Tl.pe_tp ?_
  refine Tl.pa_cons ?_
  refine Tl.pe_i ?_
  refine Tl.pa_cons ?_
  refine Tl.pe_s ?_
  refine Tl.pa_nil ?_
  refine ⟨[_, _], rfl, (by first | decide | (simp; done)), ?_⟩
  refine Tl.pa_cons ?_
  refine Tl.pe_tp ?_
  refine Tl.pa_cons ?_
  refine Tl.pe_add ?_
  refine Tl.pe_i ?_
  refine Tl.pe_nm 3 rfl ?_
  refine ⟨_, _, rfl, rfl, ?_⟩
  refine Tl.pa_cons ?_
  refine Tl.pe_s ?_
  refine Tl.pa_nil ?_
  refine ⟨[_, _], rfl, (by first | decide | (simp; done)), ?_⟩
  refine Tl.pa_nil ?_
  refine ⟨[_, _], rfl, (by first | decide | (simp; done)), ?_⟩
  refine Tl.pss_cons ?_
  refine Tl.ps_as 6 sc_law_whole_right.nd ?_
  refine Tl.pe_mod ?_
  refine Tl.pe_i ?_
  refine Tl.pe_add ?_
  refine Tl.pe_nm 0 rfl ?_
  refine Tl.pe_nm 1 rfl ?_
  refine ⟨_, _, rfl, rfl, ?_⟩
  refine ⟨_, _, rfl, rfl, (by omega), ?_⟩
  refine Tl.pss_cons ?_
  refine Tl.ps_if ?_
  refine Tl.pt_w ?_
  refine Tl.pw_or ?_
  refine Tl.pt_nin (by with_unfolding_all rfl) ?_
  refine Tl.pe_nm 6 rfl ?_
  refine Tl.pe_call g_uncut_offsets hr (by decide) ?_
  refine Tl.pa_cons ?_
  refine Tl.pe_nm 4 rfl ?_
  refine Tl.pa_cons ?_
  refine Tl.pe_nm 5 rfl ?_
  refine Tl.pa_nil ?_
  refine s_kb_ok (ds := whB t j n) (show IsKind t j from ⟨by omega, by omega, by omega, by omega⟩) hB ?_
  refine ⟨_, .inl rfl, rfl, (ints_flat _), ?_⟩
  refine iteB (fun h1 => ?_) (fun h1 => ?_)
  · skip
    try simp only [eqv_int, eqv_side, eqv_sideL, Bool.not_eq_true, Bool.not_eq_false, decide_eq_true_eq, decide_eq_false_iff_not, Bool.not_eq_true', Bool.not_eq_false'] at h1
    rw [inD_ints, decide_eq_true (wh_good (by omega) hj0)] at h1
    cases h1
  · skip
    try simp only [eqv_int, eqv_side, eqv_sideL, Bool.not_eq_true, Bool.not_eq_false, decide_eq_true_eq, decide_eq_false_iff_not, Bool.not_eq_true', Bool.not_eq_false'] at h1
    refine Tl.pw_or1 ?_
    refine Tl.pt_ne hr.units ?_
    refine Tl.pe_call g_widest_least hr (by decide) ?_
    refine Tl.pa_cons ?_
    refine Tl.pe_nm 4 rfl ?_
    refine Tl.pa_cons ?_
    refine Tl.pe_nm 5 rfl ?_
    refine Tl.pa_nil ?_
    refine s_kb_ok (ds := whB t j n) (show IsKind t j from ⟨by omega, by omega, by omega, by omega⟩) hB ?_
    rw [wh_widest (by omega) hj0 hB]
    refine Tl.pe_nm 0 rfl ?_
    refine ⟨(by first | rfl | assumption | exact ints_shaped _ | exact shaped_side _ | decide +kernel), (by first | rfl | assumption | exact ints_shaped _ | exact shaped_side _ | decide +kernel), ?_⟩
    refine iteB (fun h2 => ?_) (fun h2 => ?_)
    · skip
      try simp only [eqv_int, eqv_side, eqv_sideL, Bool.not_eq_true, Bool.not_eq_false, decide_eq_true_eq, decide_eq_false_iff_not, Bool.not_eq_true', Bool.not_eq_false'] at h2
      first | exact absurd rfl h2 | exact absurd trivial h2
    · skip
      try simp only [eqv_int, eqv_side, eqv_sideL, Bool.not_eq_true, Bool.not_eq_false, decide_eq_true_eq, decide_eq_false_iff_not, Bool.not_eq_true', Bool.not_eq_false'] at h2
      refine Tl.pss_nil ?_
      refine Tl.pss_cons ?_
      refine Tl.ps_if ?_
      refine Tl.pt_lt ?_
      refine Tl.pe_nm 2 rfl ?_
      refine Tl.pe_i ?_
      refine ⟨_, _, rfl, rfl, ?_⟩
      refine iteB (fun hn3 => ?_) (fun hn3 => ?_)
      · skip
        try simp only [eqv_int, eqv_side, eqv_sideL, Bool.not_eq_true, Bool.not_eq_false, decide_eq_true_eq, decide_eq_false_iff_not, Bool.not_eq_true', Bool.not_eq_false'] at hn3
        refine Tl.pss_one ?_
        refine Tl.ps_ret ?_
        refine Tl.pe_b ?_
        exact hk
      · skip
        try simp only [eqv_int, eqv_side, eqv_sideL, Bool.not_eq_true, Bool.not_eq_false, decide_eq_true_eq, decide_eq_false_iff_not, Bool.not_eq_true', Bool.not_eq_false'] at hn3
        refine Tl.pss_nil ?_
        refine Tl.pss_cons ?_
        refine Tl.ps_as 7 sc_law_whole_right.nd ?_
        refine Tl.pe_tp ?_
        refine Tl.pa_cons ?_
        refine Tl.pe_i ?_
        refine Tl.pa_cons ?_
        refine Tl.pe_add ?_
        refine Tl.pe_i ?_
        refine Tl.pe_nm 3 rfl ?_
        refine ⟨_, _, rfl, rfl, ?_⟩
        refine Tl.pa_nil ?_
        refine ⟨[_, _], rfl, (by first | decide | (simp; done)), ?_⟩
        refine Tl.pss_cons ?_
        refine Tl.ps_if ?_
        refine Tl.pt_w ?_
        refine Tl.pw_or ?_
        refine Tl.pt_ne hr.units ?_
        refine Tl.pe_call g_row_pieces hr (by decide) ?_
        refine Tl.pa_cons ?_
        refine Tl.pe_nm 4 rfl ?_
        refine Tl.pa_cons ?_
        refine Tl.pe_nm 6 rfl ?_
        refine Tl.pa_cons ?_
        refine Tl.pe_nm 7 rfl ?_
        refine Tl.pa_nil ?_
        refine s_row_pieces_ok (show IsKind t j from ⟨by omega, by omega, by omega, by omega⟩) (by omega) (by omega) (wh_row (by omega) (by omega) (by omega) (by omega) (by omega) (by omega)) ?_
        refine Tl.pe_tp ?_
        refine Tl.pa_cons ?_
        refine Tl.pe_i ?_
        refine Tl.pa_cons ?_
        refine Tl.pe_nm 2 rfl ?_
        refine Tl.pa_cons ?_
        refine Tl.pe_i ?_
        refine Tl.pa_nil ?_
        refine ⟨[_, _, _], rfl, (by first | decide | (simp; done)), ?_⟩
        refine ⟨(by first | rfl | assumption | exact ints_shaped _ | exact shaped_side _ | decide +kernel), (by first | rfl | assumption | exact ints_shaped _ | exact shaped_side _ | decide +kernel), ?_⟩
        refine iteB (fun h3 => ?_) (fun h3 => ?_)
        · skip
          try simp only [eqv_int, eqv_side, eqv_sideL, Bool.not_eq_true, Bool.not_eq_false, decide_eq_true_eq, decide_eq_false_iff_not, Bool.not_eq_true', Bool.not_eq_false'] at h3
          exact (eqv_no rfl (congrArg cD (wh_cut (by omega) hj0)) h3).elim
        · skip
          try simp only [eqv_int, eqv_side, eqv_sideL, Bool.not_eq_true, Bool.not_eq_false, decide_eq_true_eq, decide_eq_false_iff_not, Bool.not_eq_true', Bool.not_eq_false'] at h3
          refine Tl.pw_or1 ?_
          refine Tl.pt_ne hr.units ?_
          refine Tl.pe_call g_tiles_needed hr (by decide) ?_
          refine Tl.pa_cons ?_
          refine Tl.pe_nm 4 rfl ?_
          refine Tl.pa_cons ?_
          refine Tl.pe_nm 6 rfl ?_
          refine Tl.pa_cons ?_
          refine cutE (rwsD (List.replicate 9 (5, 5 + (n * (t + j) - j)))) ?_ ?_
          · skip
            refine Tl.pe_repT ?_
            refine Tl.pe_tp ?_
            refine Tl.pa_cons ?_
            refine Tl.pe_nm 7 rfl ?_
            refine Tl.pa_nil ?_
            refine ⟨[_], rfl, (by first | decide | (simp; done)), ?_⟩
            refine Tl.pe_i ?_
            refine ⟨_, _, rfl, rfl, (by simp), by decide, by decide, (by first | decide | exact (show 1 ≤ 1000 by decide)), ?_⟩
            rfl
          refine Tl.pa_cons ?_
          refine Tl.pe_i ?_
          refine Tl.pa_nil ?_
          refine s_kors_ok (show IsKind t j from ⟨by omega, by omega, by omega, by omega⟩) (by omega) (by omega) (wh_rows (m := 9) (by omega) (by omega) (by omega) (by omega) (by omega) (by omega) (by decide) (by decide)) (by decide) (by decide) ?_
          refine Tl.pe_mul ?_
          refine Tl.pe_i ?_
          refine Tl.pe_nm 2 rfl ?_
          refine ⟨_, _, rfl, rfl, (by first | exact .inl ⟨by omega, by omega⟩ | exact .inr ⟨by omega, by omega⟩), ?_⟩
          refine ⟨(by first | rfl | assumption | exact ints_shaped _ | exact shaped_side _ | decide +kernel), (by first | rfl | assumption | exact ints_shaped _ | exact shaped_side _ | decide +kernel), ?_⟩
          refine iteB (fun h4 => ?_) (fun h4 => ?_)
          · skip
            try simp only [eqv_int, eqv_side, eqv_sideL, Bool.not_eq_true, Bool.not_eq_false, decide_eq_true_eq, decide_eq_false_iff_not, Bool.not_eq_true', Bool.not_eq_false'] at h4
            exact absurd (wh_need 9 (by omega) hj0) h4
          · skip
            try simp only [eqv_int, eqv_side, eqv_sideL, Bool.not_eq_true, Bool.not_eq_false, decide_eq_true_eq, decide_eq_false_iff_not, Bool.not_eq_true', Bool.not_eq_false'] at h4
            refine Tl.pss_nil ?_
            refine Tl.pss_one ?_
            refine Tl.ps_ret ?_
            refine Tl.pe_eq hr.units ?_
            refine Tl.pe_at ?_
            refine Tl.pe_call g_fewest_tiles hr (by decide) ?_
            refine Tl.pa_cons ?_
            refine Tl.pe_nm 4 rfl ?_
            refine Tl.pa_cons ?_
            refine Tl.pe_tp ?_
            refine Tl.pa_cons ?_
            refine Tl.pe_nm 7 rfl ?_
            refine Tl.pa_nil ?_
            refine ⟨[_], rfl, (by first | decide | (simp; done)), ?_⟩
            refine Tl.pa_cons ?_
            refine Tl.pe_i ?_
            refine Tl.pa_nil ?_
            refine s_krs_ok (rs := [(5, 5 + (n * (t + j) - j))]) (show IsKind t j from ⟨by omega, by omega, by omega, by omega⟩) (wh_rows (m := 1) (by omega) (by omega) (by omega) (by omega) (by omega) (by omega) (by decide) (by decide)) (by decide) (by decide) ?_
            intro m w hf
            refine ⟨_, _, rfl, rfl, ?_⟩
            refine Tl.pe_nm 2 rfl ?_
            refine ⟨(by first | rfl | assumption | exact ints_shaped _ | exact shaped_side _ | decide +kernel), (by first | rfl | assumption | exact ints_shaped _ | exact shaped_side _ | decide +kernel), ?_⟩
            rw [eqv_int, wh_fewest (by omega) hj0 hj1 (by omega) hf, decide_eq_true rfl]
            exact hk

/-! ### the class Floor -/
abbrev clFl : Stmt := topS 61
abbrev sInitF : Stmt := inClass clFl 1
abbrev sBuildF : Stmt := inClass clFl 3
abbrev sGoodF : Stmt := inClass clFl 6
abbrev sCallF : Stmt := inClass clFl 7
theorem last_at (pre : List D) (d : D) : atI (pre ++ [d]) (-1) = some d := by
  have e : ixN (pre ++ [d]).length (-1) = some pre.length := by
    unfold ixN
    rw [List.length_append, if_neg (by decide), if_pos (by simp only [List.length_singleton]; omega)]
    exact congrArg some (by simp only [List.length_singleton]; omega)
  unfold atI
  rw [e]
  show (pre ++ [d])[pre.length]? = some d
  simp
/-- what the walk asks of the class -/
structure FTxt (K : PySem.W.Frag) (mg : Str → Option Value) (C : Addr) : Prop where
  cl : Cls K C
  nK : NoAttr K C "kind"
  nL : NoAttr K C "least"
  nS : NoAttr K C "steps"
  mgC : mg "Floor" = some (.ref C)
abbrev flS (x C : Addr) (steps : List D) : Slot := .obj x C [("kind", kD 10 0), ("least", .int 5), ("steps", .list steps)]
theorem fl_k {a b c : D} : List.lookup ("kind" : Str) [(("kind" : Str), a), ("least", b), ("steps", c)] = some a := by simp [List.lookup]
theorem fl_l {a b c : D} : List.lookup ("least" : Str) [(("kind" : Str), a), ("least", b), ("steps", c)] = some b := by
  rw [List.lookup_cons, show (("least" : Str) == "kind") = false by decide +kernel, List.lookup_cons, show (("least" : Str) == "least") = true by decide +kernel]
theorem fl_s {a b c : D} : List.lookup ("steps" : Str) [(("kind" : Str), a), ("least", b), ("steps", c)] = some c := by
  rw [List.lookup_cons, show (("steps" : Str) == "kind") = false by decide +kernel, List.lookup_cons, show (("steps" : Str) == "least") = false by decide +kernel, List.lookup_cons, show (("steps" : Str) == "steps") = true by decide +kernel]
section
variable {P : Program} {w : World} {K : PySem.W.Frag} {mg : Str → Option Value} {base : Heap}
theorem sc_good : FnScope ["self"] ["self"] (defScope sGoodF) := ⟨rfl, rfl, rfl, by decide +kernel, rfl, by decide +kernel, by decide +kernel⟩
def s_goodF (C : Addr) : Ct := fun ss k _ => ∃ x pre b g, ss = [flS x C (pre ++ [.tuple [b, g]])] ∧ k g
theorem ok_goodF {C f : Addr} {fd : FuncData} (F : Fun K "good" "Floor.good" sGoodF f fd) (T : FTxt K mg C) : FnOk P w K mg base (L2N.CX P w) 1 f fd ["self"] (spS K (s_goodF C)) := by
  refine fn_ok F sc_good (by decide) (by rintro _ _ _ ⟨_, _, _, _, rfl, _⟩; rfl) ?_
  rintro cdv A outer s H E _ k ex hr ⟨x, pre, b, g, rfl, hk⟩
  show Pss _ [flS x C (pre ++ [.tuple [b, g]])] _ _
  refine Tl.pss_one ?_
  refine Tl.ps_ret ?_
  refine Tl.pe_at ?_
  refine Tl.pe_ixL ?_
  refine Tl.pe_atO 0 rfl T.cl T.nS fl_s ?_
  refine Tl.pe_neg ?_
  refine Tl.pe_i ?_
  refine ⟨_, rfl, ?_⟩
  refine ⟨_, _, _, rfl, rfl, last_at _ _, ?_⟩
  exact ⟨_, _, rfl, rfl, hk⟩
theorem sc_callF : FnScope ["self", "offset", "border"] ["self", "offset"] (defScope sCallF) := ⟨rfl, rfl, rfl, by decide +kernel, rfl, by decide +kernel, by decide +kernel⟩
def s_callF (C : Addr) : Ct := fun ss k _ => ∃ x pre bs g o, ss = [flS x C (pre ++ [.tuple [.tuple bs, g]]), .d (.int o)] ∧ (0 ≤ o ∧ o < 10) ∧ AllB bs ∧ bs.length ≤ 12 ∧ k (.tuple (bs.map fun d => .int (bw 10 0 o d)))
theorem ok_callF {C f : Addr} {fd : FuncData} {cl_InvalidOffset : Addr} (F : Fun K "__call__" "Floor.__call__" sCallF f fd) (T : FTxt K mg C) (m_tuple : mg "tuple" = none)
    (g_need_offset : Ok P w K mg base 2 "need_offset" ["kind", "value"] (s_need_offset cl_InvalidOffset)) (g_width_of : Ok P w K mg base 2 "width_of" ["kind", "offset", "border"] s_width_of) : FnOk P w K mg base (L2N.CX P w) 6 f fd ["self", "offset"] (spS K (s_callF C)) := by
  refine fn_ok F sc_callF (by decide) (by rintro _ _ _ ⟨_, _, _, _, _, rfl, _⟩; rfl) ?_
  rintro cdv A outer s H E _ k ex hr ⟨x, pre, bs, g, o, rfl, ⟨ho0, ho1⟩, hB, hl, hk⟩
  show Pss _ [flS x C (pre ++ [.tuple [.tuple bs, g]]), .d (.int o), .un] _ _
  refine Tl.pss_cons ?_
  refine Tl.ps_expr ?_
  refine Tl.pe_call g_need_offset hr (by decide) ?_
  refine Tl.pa_cons ?_
  refine Tl.pe_atO 0 rfl T.cl T.nK fl_k ?_
  refine Tl.pa_cons ?_
  refine Tl.pe_nm 1 rfl ?_
  refine Tl.pa_nil ?_
  refine ⟨10, 0, _, rfl, fun g2 => ?_, fun z => absurd z (no_int (by omega) (by omega))⟩
  refine Tl.pss_one ?_
  refine Tl.ps_ret ?_
  refine Tl.pe_tupOf m_tuple ?_
  refine Tl.pe_lc (own := [("border", 2)]) (.nm 2) rfl sc_callF.nd (show BlkOk ["self", "offset", "border"] (defScope sCallF) _ _ from blkOk_by (by decide +kernel)) (by decide) (fun _ _ _ _ _ => pg_name (i := 2) sc_callF.nd rfl (by first | exact Or.inl rfl | exact Or.inr rfl)) ?_
  refine Tl.lc_mp (fun d => .int (bw 10 0 o d)) ?_
  refine Tl.pi_t ?_
  refine Tl.pe_at ?_
  refine Tl.pe_ixL ?_
  refine Tl.pe_atO 0 rfl T.cl T.nS fl_s ?_
  refine Tl.pe_neg ?_
  refine Tl.pe_i ?_
  refine ⟨_, rfl, ?_⟩
  refine ⟨_, _, _, rfl, rfl, last_at _ _, ?_⟩
  refine ⟨_, _, rfl, rfl, ?_⟩
  refine ⟨_, rfl, ?_⟩
  refine ⟨by omega, ?_, ?_⟩
  · intro d hd
    obtain ⟨p, rt, rfl, _⟩ := hB d hd
    refine ⟨_, rfl, rfl, fun _ _ _ _ _ => ?_⟩
    refine Tl.pe_call g_width_of hr (by decide) ?_
    refine Tl.pa_cons ?_
    refine Tl.pe_atO 0 rfl T.cl T.nK fl_k ?_
    refine Tl.pa_cons ?_
    refine Tl.pe_nm 1 rfl ?_
    refine Tl.pa_cons ?_
    refine Tl.pe_nm 2 rfl ?_
    refine Tl.pa_nil ?_
    refine ⟨_, _, _, _, _, rfl, by omega, ?_⟩
    rw [bw_bD]
  exact ⟨_, rfl, hk⟩
/-! ### __init__ -/
theorem sc_initF : FnScope ["self", "tile", "joint", "least"] ["self", "tile", "joint", "least"] (defScope sInitF) := ⟨rfl, rfl, rfl, by decide +kernel, rfl, by decide +kernel, by decide +kernel⟩
abbrev step0 : List D := [.tuple [.tuple [], .tuple (rngD 0 10)]]
def spInitF (C : Addr) : Sp := fun vs H Q _ => ∃ x dx, vs = [.ref x, .int 10, .int 0, .int 5] ∧ H x = some (.ins C dx []) ∧ ∀ kt ls H', H ls = none → FloorAt C H' x kt ls 10 0 5 step0 → (∀ a o, a ≠ x → H a = some o → H' a = some o) → Q .non H'
theorem len_flF0 (kt : Addr) : (putF "kind" (V.ref kt) ([] : List (Str × V))).length < 1000 := by show 1 < 1000; decide
theorem len_flF1 (kt : Addr) : (putF "least" (V.int 5) (putF "kind" (V.ref kt) ([] : List (Str × V)))).length < 1000 := by
  show (if ("kind" : Str) = "least" then [(("kind" : Str), V.int 5)] else [(("kind" : Str), V.ref kt), ("least", V.int 5)]).length < 1000
  rw [if_neg ne_kl]
  show 2 < 1000
  decide
theorem ok_initF {C f cl_InvalidNumber : Addr} {fd : FuncData} (F : FunD K "__init__" "Floor.__init__" (defArgs sInitF) (defBody sInitF) (defScope sInitF) [.int 0] [("least", .int 1)] f fd) (T : FTxt K mg C) (m_tuple : mg "tuple" = none) (m_range : mg "range" = none)
    (g_is_kind : Ok P w K mg base 2 "is_kind" ["value"] s_is_kind) (g_need_number : Ok P w K mg base 2 "need_number" ["value", "low", "high"] (s_need_number cl_InvalidNumber)) : FnOk P w K mg base (L2N.CX P w) 6 f fd ["self", "tile", "joint", "least"] (spInitF C) := by
  refine F.ok sc_initF (by rintro _ _ _ _ ⟨_, _, rfl, _⟩; rfl) ?_
  rintro cdv A outer s H vs Q E hr ⟨x, dx, rfl, hx, hq⟩
  refine ⟨_, pss_self, ?_⟩
  have en0 : En K (F00 H) [.raw (.ref x), .d (.int 10), .d (.int 0), .d (.int 5)] (start ["self", "tile", "joint", "least"] [.ref x, .int 10, .int 0, .int 5]) H := en_now rfl (by
    intro i s hs
    match i, hs with
    | 0, hs => cases hs; exact ⟨rfl, rfl⟩
    | 1, hs => cases hs; exact ⟨rfl, _, rfl, .int 10⟩
    | 2, hs => cases hs; exact ⟨rfl, _, rfl, .int 0⟩
    | 3, hs => cases hs; exact ⟨rfl, _, rfl, .int 5⟩
    | i + 4, hs => cases hs)
  have key : PssE (cxOf (L2N.CX P w) P w K mg base ["self", "tile", "joint", "least"] "Floor.__init__" (defScope sInitF) f cdv A outer s H E) nope [.raw (.ref x), .d (.int 10), .d (.int 0), .d (.int 5)] (defBody sInitF) (fun G => G = F00 H) { nx := fun _ H' => Q .non H', rt := fun v H' => False } := by
    show PssE _ _ [.raw (.ref x), .d (.int 10), .d (.int 0), .d (.int 5)] _ _ _
    refine pssE_cons ?_
    refine Tl.ps_if ?_
    refine Tl.pt_not ?_
    refine Tl.pt_e ?_
    refine Tl.pe_call g_is_kind hr (by decide) ?_
    refine Tl.pa_cons ?_
    refine Tl.pe_tp ?_
    refine Tl.pa_cons ?_
    refine Tl.pe_nm 1 rfl ?_
    refine Tl.pa_cons ?_
    refine Tl.pe_nm 2 rfl ?_
    refine Tl.pa_nil ?_
    refine ⟨[_, _], rfl, (by decide), ?_⟩
    refine Tl.pa_nil ?_
    refine ⟨_, rfl, ?_⟩
    refine ⟨_, rfl, ?_⟩
    refine iteNo ?_
    refine Tl.pss_nil ?_
    show PssE _ _ [.raw (.ref x), .d (.int 10), .d (.int 0), .d (.int 5)] _ _ _
    refine pssE_cons ?_
    refine Tl.ps_expr ?_
    refine Tl.pe_call g_need_number hr (by decide) ?_
    refine Tl.pa_cons ?_
    refine Tl.pe_nm 3 rfl ?_
    refine Tl.pa_cons ?_
    refine Tl.pe_i ?_
    refine Tl.pa_cons ?_
    refine Tl.pe_nm 1 rfl ?_
    refine Tl.pa_nil ?_
    refine ⟨_, _, _, rfl, fun g2 => ?_, fun z => absurd z (by decide)⟩
    -- the stores
    intro G σ H1 eG en tk
    subst eG
    have s0 := en.rawAt (i := 0) rfl
    obtain ⟨v1, s1, t1⟩ := en.at (i := 1) rfl
    obtain ⟨v2, s2, t2⟩ := en.at (i := 2) rfl
    obtain ⟨v3, s3, t3⟩ := en.at (i := 3) rfl
    cases t1; cases t2; cases t3
    have hb := kp_same en.base
    have hx1 := hb x _ hx
    have hT : ∀ {p1 p2 p3 p4 p5 p6 p7 : Pos} {H2 : Hp} {Q' : VK}, (∀ v H', Same H2 H' → Td H' v (.tuple (rngD 0 10)) → Q' v H') →
        WE (cxOf (L2N.CX P w) P w K mg base ["self", "tile", "joint", "least"] "Floor.__init__" (defScope sInitF) f cdv A outer s H E) (.Call (.Name "tuple" p1) [.Call (.Name "range" p2) [.BinOp (.Name "tile" p3) .Add (.Name "joint" p4) p5] [] p6] [] p7) σ H2 Q' := fun {p1 p2 p3 p4 p5 p6 p7 H2 Q'} h =>
      have hP : Pe (cxOf (L2N.CX P w) P w K mg base ["self", "tile", "joint", "least"] "Floor.__init__" (defScope sInitF) f cdv A outer s H E) nope [.un, .d (.int 10), .d (.int 0), .un] (.Call (.Name "tuple" p1) [.Call (.Name "range" p2) [.BinOp (.Name "tile" p3) .Add (.Name "joint" p4) p5] [] p6] [] p7) (fun d => d = .tuple (rngD 0 10)) := by
        refine Tl.pe_tupR1 rfl m_tuple m_range ?_
        refine Tl.pe_add ?_
        refine Tl.pe_nm 1 rfl ?_
        refine Tl.pe_nm 2 rfl ?_
        refine ⟨_, _, rfl, rfl, ?_⟩
        exact ⟨_, rfl, ⟨by decide, by decide, by decide, by decide, by decide⟩, rfl⟩
      we_mono (hP (F00 H2) σ H2 (en_now (δ := [.un, .d (.int 10), .d (.int 0), .un]) en.len (by
        intro i s hs
        match i, hs with
        | 0, hs => cases hs; exact ⟨rfl, True.intro⟩
        | 1, hs => cases hs; exact ⟨rfl, _, by rw [s1]; rfl, .int 10⟩
        | 2, hs => cases hs; exact ⟨rfl, _, by rw [s2]; rfl, .int 0⟩
        | 3, hs => cases hs; exact ⟨rfl, True.intro⟩
        | i + 4, hs => cases hs)) (takesN takesNo)) fun v H' ⟨en2, k2, d, td, hd⟩ => by
        subst hd
        have td : Td (mask [] H') v (.tuple (rngD 0 10)) := td
        rw [mask_nil] at td
        exact h v H' (kp_same k2) td
    refine wss_of (L2.pss_cons (L2.ps_fld (pv 0) (L2.pe_tup (L2.pa_cons (pv 1) (L2.pa_cons (pv 2) L2.pa_nil))) rfl) (L2.pss_cons (L2.ps_fld (pv 0) (pv 3) rfl) (L2.pss_one (L2.ps_fld (pv 0) (L2.pe_lst (L2.pa_cons (L2.pe_tup (L2.pa_cons (L2.pe_tup L2.pa_nil) (L2.pa_cons pe_self L2.pa_nil))) L2.pa_nil)) rfl)))) ?_
    refine ⟨_, s1, _, s2, (by rw [sizeLine_eq]; simp), fun kt hkt => ⟨_, s0, x, C, dx, [], rfl, (by rw [upd_ne (ne_of_none hx1 hkt)]; exact hx1), T.cl, T.nK, (by decide), ?_⟩⟩
    refine ⟨_, s3, _, s0, x, C, dx, _, rfl, upd_same, T.cl, T.nL, len_flF0 kt, ?_⟩
    refine ⟨(by simp), fun e0 he0 => hT fun rg H4 sm trg => ⟨(by rw [sizeLine_eq]; simp), fun p hp => ⟨(by rw [sizeLine_eq]; simp), fun ls hls => ⟨_, s0, x, C, dx, _, rfl, ?_, T.cl, T.nS, len_flF1 kt, ?_⟩⟩⟩⟩
    · rw [upd_ne (fun z => ?_), upd_ne (fun z => ?_)]
      · exact sm _ _ (by rw [upd_ne (fun z => ?_)]; exact upd_same; rw [z, upd_same] at he0; cases he0)
      · have := sm x _ (by rw [upd_ne (fun z => ?_)]; exact upd_same; rw [z, upd_same] at he0; cases he0)
        rw [z, hp] at this; cases this
      · have h4 := sm x _ (by rw [upd_ne (fun z => ?_)]; exact upd_same; rw [z, upd_same] at he0; cases he0)
        have hpx : x ≠ p := fun y => by rw [y, hp] at h4; cases h4
        rw [← z, upd_ne hpx, h4] at hls; cases hls
    · have hxe : x ≠ e0 := fun z => by rw [← z, upd_same] at he0; cases he0
      have h4x := sm x _ (by rw [upd_ne hxe]; exact upd_same)
      have hxp : x ≠ p := fun z => by rw [z, hp] at h4x; cases h4x
      have hxl : x ≠ ls := fun z => by rw [← z, upd_ne hxp, h4x] at hls; cases hls
      have hxk : x ≠ kt := ne_of_none hx1 hkt
      -- what stood stands
      have kp : ∀ a o, a ≠ x → H a = some o → H4 a = some o := fun a o n e => sm a o (by
        have e1 := hb a o e
        rw [upd_ne (fun z => ?_), upd_ne n, upd_ne n, upd_ne (ne_of_none e1 hkt)]
        · exact e1
        · rw [← z, upd_ne n, upd_ne n, upd_ne (ne_of_none e1 hkt), e1] at he0
          cases he0)
      have hke : kt ≠ e0 := fun z => by
        rw [← z, upd_ne hxk.symm, upd_ne hxk.symm, upd_same] at he0; cases he0
      have h4k : H4 kt = some (.tup [.int 10, .int 0]) := sm kt _ (by rw [upd_ne hke, upd_ne hxk.symm, upd_ne hxk.symm, upd_same])
      have hkp : kt ≠ p := fun z => by rw [z, hp] at h4k; cases h4k
      have hkl : kt ≠ ls := fun z => by rw [← z, upd_ne hkp, h4k] at hls; cases hls
      have h4e : H4 e0 = some (.tup []) := sm e0 _ upd_same
      have hep : e0 ≠ p := fun z => by rw [z, hp] at h4e; cases h4e
      have hel : e0 ≠ ls := fun z => by rw [← z, upd_ne hep, h4e] at hls; cases hls
      have hpl : p ≠ ls := fun z => by rw [← z, upd_same] at hls; cases hls
      have keep : ∀ a o, a ≠ x → H4 a = some o → (upd (upd (upd H4 p (.tup [.ref e0, rg])) ls (.lst [.ref p])) x (.ins C dx (flF kt ls 5))) a = some o := fun a o n e => by
        have n1 : a ≠ p := fun z => by rw [z, hp] at e; cases e
        have n2 : a ≠ ls := fun z => by rw [← z, upd_ne n1, e] at hls; cases hls
        rw [upd_ne n, upd_ne n2, upd_ne n1]; exact e
      refine hq kt ls _ ?_ ⟨⟨dx, upd_same⟩, keep kt _ hxk.symm h4k, [.ref p], by rw [upd_ne hxl.symm, upd_same], by simp, .cons (.tup (by rw [upd_ne hxp.symm, upd_ne hpl, upd_same]) (by rw [sizeLine_eq]; simp) (.cons (.tup (keep e0 _ hxe.symm h4e) (by rw [sizeLine_eq]; simp) .nil) (.cons (trg.off (l := x) (fun xs z => by rw [h4x] at z; cases z) keep rfl) .nil))) .nil⟩ fun a o n e => keep a o n (kp a o n e)
      cases q : H ls with
      | none => rfl
      | some o =>
        have := kp ls o hxl.symm q
        rw [upd_ne hpl.symm, this] at hls
        cases hls
  refine wss_mono (key (F00 H) _ _ rfl en0 (takesN takesNo)) ⟨fun σ' H' h => h, fun v H' h => h.elim, fun σ' H' h => h.elim, fun σ' H' h => h.elim⟩
/-! ### build -/
theorem cxUpN {P : Program} {w : World} : StX.CXUp (L2N.CX P w) := by
  rintro outer s H s2 H2 E e s' un kp ho ⟨a, B, H', cls, d, ea, fl, hok, ub, na, os, ag, he⟩
  refine ⟨a, B, H', cls, d, ea, fl, hok, ⟨fun b o q n hb => ub.keep b o (kp b o q) (un.free b o q n (by simp)) hb, fun b o q hb => ub.slot b o (kp b o q) hb, fun b o q n => ub.free b o (kp b o q) (un.free b o q n (by simp)),
    fun b o q hb => ub.there b o (kp b o q) hb, fun b xs q => ub.tups b xs (un.tups b xs q), fun b o xs q => ub.frzs b o xs (un.frzs b o xs q), fun b ps q => ?_⟩, na, os.trans ho, ag, he⟩
  obtain ⟨m1, e1⟩ := un.tbls b ps q
  obtain ⟨m2, e2⟩ := ub.tbls b _ e1
  exact ⟨m1 ++ m2, by rw [e2, Array.append_assoc]⟩
theorem sc_buildF : FnScope ["self", "borders", "border", "new", "good"] ([("self" : Str)] ++ [("borders" : Str)]) (defScope sBuildF) := ⟨rfl, rfl, rfl, by decide +kernel, rfl, by decide +kernel, by decide +kernel⟩
abbrev bs36 : List D := [bD 0 true, bD 36 false]
abbrev gs36 : List D := [.int 0, .int 6, .int 7, .int 8, .int 9]
abbrev step1 : List D := step0 ++ [.tuple [.tuple bs36, .tuple gs36]]
def spBuildF (C : Addr) : Sp := fun vs H Q _ => ∃ x kt ls p, vs = [.ref x, .ref p] ∧ FloorAt C H x kt ls 10 0 5 step0 ∧ Td H (.ref p) (.tuple bs36) ∧ ∀ H', FloorAt C H' x kt ls 10 0 5 step1 → (∀ a o, a ≠ ls → H a = some o → H' a = some o) → Q (.int 5) H'
theorem b36_all : AllB bs36 := (two_b (p := 0) (q := 36) (a := true) (c := false) ⟨by decide, by decide⟩ ⟨by decide, by decide⟩).all
theorem g36_is : good 10 0 bs36 5 = [0, 6, 7, 8, 9] := by decide +kernel
abbrev xB (P : Program) (w : World) (K : PySem.W.Frag) (mg : Str → Option Value) (base : Heap) (f : Addr) (cdv : Value) (A : Around) (outer : List Env) (s : Shared) (H : Hp) (E : XK) : Cx := cxOf (L2N.CX P w) P w K mg base ["self", "borders", "border", "new", "good"] "Floor.build" (defScope sBuildF) f cdv A outer s H E
theorem ok_buildF {C f cl_InvalidBorder : Addr} {oc kV doc pm cdv ct : Value} {an od : Option Addr} {osl : Array (Option Value)} (lk : K.lookup f = some ⟨oc, od, .func (PySem.W.fnOf "build" "Floor.build" (defArgs sBuildF) (defBody sBuildF) (defScope sBuildF) .none kV doc pm an cdv ct), osl⟩) (hcd : PySem.W.codeIn K cdv "Floor.build" = true)
    (T : FTxt K mg C) {mc : Value} {tk : Tok} (cr : ClX.CRead K C mc) (cv : ClX.CVal K C mc "MOST" (.int 12) (.int 12 tk)) (m_tuple : mg "tuple" = none) (m_len : mg "len" = none)
    (g_need_border : Ok P w K mg base 3 "need_border" ["value"] (s_need_border cl_InvalidBorder)) (g_good_of : Ok P w K mg base 4 "good_of" ["kind", "borders", "least"] s_good_of) :
    FnR P w K mg base (L2N.CX P w) 6 f (fun vs H Q E => ∃ ws rest, vs = ws ++ rest ∧ ws.length = ["self"].length ∧ rest.length ≤ sizeLine ∧ ∀ p, H p = none → spBuildF C (ws ++ [V.ref p]) (upd H p (.tup rest)) Q E) := by
  refine StX.fn_star (k := 5) (ps := ["self"]) (pv := "borders") lk hcd sc_buildF cxUpN (StX.bind_star1 (B := fun l => bindArgs (PySem.W.fnOf "build" "Floor.build" (defArgs sBuildF) (defBody sBuildF) (defScope sBuildF) .none kV doc pm an cdv ct) ⟨l, []⟩) (p1 := "self") (pv := "borders") (fun _ => rfl) (fun _ _ _ => rfl)) ?_
  rintro A outer s H vs Q E hr ⟨x, kt, ls, p, rfl, hF, hp, hq⟩
  refine ⟨_, pss_self, ?_⟩
  have en0 : En K (F00 H) [flS x C step0, .d (.tuple bs36), .un, .un, .un] (start ["self", "borders", "border", "new", "good"] [.ref x, .ref p]) H := en_now rfl (by
    intro i s hs
    match i, hs with
    | 0, hs => cases hs; exact ⟨rfl, hF.slot⟩
    | 1, hs => cases hs; exact ⟨rfl, _, rfl, by rw [mask_nil]; exact hp⟩
    | 2, hs => cases hs; exact ⟨rfl, True.intro⟩
    | 3, hs => cases hs; exact ⟨rfl, True.intro⟩
    | 4, hs => cases hs; exact ⟨rfl, True.intro⟩
    | i + 5, hs => cases hs)
  have key : PssE (xB P w K mg base f cdv A outer s H E) nope [flS x C step0, .d (.tuple bs36), .un, .un, .un] (defBody sBuildF) (fun G => G = F00 H) { nx := fun _ _ => False, rt := fun v H' => Q v H' } := by
    show PssE _ _ [flS x C step0, .d (.tuple bs36), .un, .un, .un] _ _ _
    refine pssE_cons ?_
    refine @Tl.ps_for _ _ _ _ _ _ _ (.nm 2) (passes_of rfl) rfl (pg_name (i := 2) sc_buildF.nd rfl (by first | exact Or.inl rfl | exact Or.inr rfl)) ?_ (by intro _; rfl)
    refine Tl.pi_t ?_
    refine Tl.pe_nm 1 rfl ?_
    refine ⟨_, rfl, ?_⟩
    refine ⟨fun i δ => ∃ b : Slot, δ = [flS x C step0, .d (.tuple bs36), b, .un, .un], ⟨_, rfl⟩, ?_, ?_⟩
    · rintro i d δ1 hd ⟨b, rfl⟩
      obtain ⟨q, rt, rfl, hq⟩ := b36_all d (List.mem_of_getElem? hd)
      refine ⟨_, rfl, ?_⟩
      show Pss _ [flS x C step0, .d (.tuple bs36), .d (bD q rt), .un, .un] _ _
      refine Tl.pss_cons ?_
      refine Tl.ps_expr ?_
      refine Tl.pe_call g_need_border hr (by decide) ?_
      refine Tl.pa_cons ?_
      refine Tl.pe_nm 2 rfl ?_
      refine Tl.pa_nil ?_
      refine ⟨_, rfl, fun g3 => ?_, fun z => absurd z (by rw [isBorderD_iff.mpr ⟨q, rt, rfl, hq⟩]; decide)⟩
      refine Tl.pss_nil ?_
      exact ⟨_, rfl⟩
    rintro δ1 ⟨b, rfl⟩
    show PssE _ _ [flS x C step0, .d (.tuple bs36), b, .un, .un] _ _ _
    refine pssE_cons ?_
    refine Tl.ps_as 3 sc_buildF.nd ?_
    refine Tl.pe_catT ?_
    refine Tl.pe_at ?_
    refine Tl.pe_ixL ?_
    refine Tl.pe_atO 0 rfl T.cl T.nS fl_s ?_
    refine Tl.pe_neg ?_
    refine Tl.pe_i ?_
    refine ⟨_, rfl, ?_⟩
    refine ⟨_, _, _, rfl, rfl, last_at [] _, ?_⟩
    refine ⟨_, _, rfl, rfl, ?_⟩
    refine Tl.pe_nm 1 rfl ?_
    refine ⟨_, _, rfl, rfl, (by simp), ?_⟩
    show PssE _ _ [flS x C step0, .d (.tuple bs36), b, .d (.tuple bs36), .un] _ _ _
    refine pssE_cons ?_
    refine Tl.ps_if ?_
    refine Tl.pt_gt ?_
    refine Tl.pe_len m_len ?_
    refine Tl.pe_nm 3 rfl ?_
    refine ⟨_, .inr rfl, ?_⟩
    refine Tl.pe_cv T.mgC cr cv ?_
    refine ⟨_, _, rfl, rfl, ?_⟩
    refine iteB (fun h => absurd h (by decide)) (fun _ => ?_)
    refine Tl.pss_nil ?_
    refine pssE_cons ?_
    refine Tl.ps_as 4 sc_buildF.nd ?_
    refine Tl.pe_tupOf m_tuple ?_
    refine Tl.pe_call g_good_of hr (by decide) ?_
    refine Tl.pa_cons ?_
    refine Tl.pe_atO 0 rfl T.cl T.nK fl_k ?_
    refine Tl.pa_cons ?_
    refine Tl.pe_nm 3 rfl ?_
    refine Tl.pa_cons ?_
    refine Tl.pe_atO 0 rfl T.cl T.nL fl_l ?_
    refine Tl.pa_nil ?_
    refine ⟨_, _, _, _, rfl, k10, b36_all, by decide, ?_⟩
    rw [g36_is]
    refine ⟨_, rfl, ?_⟩
    show PssE _ _ [flS x C step0, .d (.tuple bs36), b, .d (.tuple bs36), .d (.tuple gs36)] _ _ _
    refine pssE_cons ?_
    refine Tl.ps_if ?_
    refine Tl.pt_eq hr.units ?_
    refine Tl.pe_nm 4 rfl ?_
    refine Tl.pe_tp ?_
    refine Tl.pa_nil ?_
    refine ⟨[], rfl, by decide, ?_⟩
    refine ⟨(by decide +kernel), rfl, ?_⟩
    refine iteB (fun h => absurd h (by decide +kernel)) (fun _ => ?_)
    refine Tl.pss_nil ?_
    show PssE _ _ [flS x C step0, .d (.tuple bs36), b, .d (.tuple bs36), .d (.tuple gs36)] _ _ _
    intro G σ H1 eG en tk
    subst eG
    have hb := kp_same en.base
    obtain ⟨dx, f1⟩ := hF.ob
    obtain ⟨vs, f2, f3, f4⟩ := hF.st
    have s0 : σ[0]? = some (some (.ref x)) := by
      have e1 := (en.sl 0 _ rfl).1
      cases w : σ[0]? with
      | none => rw [w] at e1; cases e1
      | some v => rw [w] at e1; rw [show v = some (V.ref x) from e1]
    obtain ⟨v3, s3, t3⟩ := en.at (i := 3) rfl
    obtain ⟨v4, s4, t4⟩ := en.at (i := 4) rfl
    have t3 : Td H1 v3 (.tuple bs36) := t3.mono (fun a o w => mask_le a o w)
    have t4 : Td H1 v4 (.tuple gs36) := t4.mono (fun a o w => mask_le a o w)
    have g1 := hb _ _ f1
    have g2 := hb _ _ f2
    have g0 := hb _ _ hF.kd
    have nt : ∀ xs, H1 ls ≠ some (.tup xs) := fun xs z => by rw [g2] at z; cases z
    have hxl : x ≠ ls := fun z => by rw [z, g2] at g1; cases g1
    have hkl : kt ≠ ls := fun z => by rw [z, g2] at g0; cases g0
    have hLen : ∀ {p1 p2 p3 : Pos} {H2 : Hp} {Q' : VK}, Td H2 v4 (.tuple gs36) → (∀ H', Same H2 H' → Q' (.int 5) H') → WE (xB P w K mg base f cdv A outer s H E) (.Call (.Name "len" p1) [.Name "good" p2] [] p3) σ H2 Q' := fun {p1 p2 p3 H2 Q'} ht h =>
      have hP : Pe (xB P w K mg base f cdv A outer s H E) nope [.un, .un, .un, .un, .d (.tuple gs36)] (.Call (.Name "len" p1) [.Name "good" p2] [] p3) (fun d => d = .int 5) := by
        refine Tl.pe_len m_len ?_
        refine Tl.pe_nm 4 rfl ?_
        exact ⟨_, .inr rfl, rfl⟩
      we_mono (hP (F00 H2) σ H2 (en_now (δ := [.un, .un, .un, .un, .d (.tuple gs36)]) en.len (by
        intro i s hs
        match i, hs with
        | 0, hs => cases hs; exact ⟨rfl, True.intro⟩
        | 1, hs => cases hs; exact ⟨rfl, True.intro⟩
        | 2, hs => cases hs; exact ⟨rfl, True.intro⟩
        | 3, hs => cases hs; exact ⟨rfl, True.intro⟩
        | 4, hs => cases hs; exact ⟨rfl, _, by rw [s4]; rfl, by rw [mask_nil]; exact ht⟩
        | i + 5, hs => cases hs)) (takesN takesNo)) fun v H' ⟨en2, k2, d, td, hd⟩ => by
        subst hd
        cases td
        exact h H' (kp_same k2)
    refine wss_of (L2.pss_cons (L2.ps_expr (L2.pe_bm PySem.F.plainAttrs_list PySem.F.slot_list_append PySem.F.type_list_append mt_append (L2.pe_fld (pv 0) rfl) (L2.pa_cons (L2.pe_tup (L2.pa_cons (pv 3) (L2.pa_cons (pv 4) L2.pa_nil))) L2.pa_nil)) rfl) (L2.pss_one (L2.ps_ret pe_self))) ?_
    refine ⟨_, s0, x, C, dx, _, .ref ls, rfl, g1, T.cl, T.nS, fl_steps _ _ _, .inl ⟨rfl, _, SqL.of g2⟩, _, s3, _, s4, (by rw [sizeLine_eq]; simp), fun p' hp' => ?_⟩
    have hpl : p' ≠ ls := fun z => by rw [z, g2] at hp'; cases hp'
    have keep : ∀ a o, a ≠ ls → H1 a = some o → (upd (upd H1 p' (.tup [v3, v4])) ls (.lst (vs ++ [.ref p']))) a = some o := fun a o n e => by
      rw [upd_ne n, upd_ne (ne_of_none e hp')]; exact e
    refine ⟨ls, vs, .ref p', rfl, rfl, (by rw [upd_ne hpl.symm]; exact g2), (by rw [sizeLine_eq]; omega), ?_⟩
    refine hLen (t4.off nt keep rfl) fun H' sm => ?_
    refine hq H' ⟨⟨dx, sm _ _ (keep x _ hxl g1)⟩, sm _ _ (keep kt _ hkl g0), vs ++ [.ref p'], sm _ _ upd_same, (by rw [List.length_append]; have := f4.length; simp at this ⊢; omega), ?_⟩ fun a o n e => sm _ _ (keep a o n (hb a o e))
    have k2 : ∀ a o, a ≠ ls → H1 a = some o → H' a = some o := fun a o n e => sm _ _ (keep a o n e)
    refine ((f4.mono hb).off nt k2 rfl).app (.cons (.tup (sm _ _ (by rw [upd_ne hpl]; exact upd_same)) (by rw [sizeLine_eq]; simp) (.cons (t3.off nt k2 rfl) (.cons (t4.off nt k2 rfl) .nil))) .nil)
  refine wss_mono (key (F00 H) _ _ rfl en0 (takesN takesNo)) ⟨fun σ' H' h => h.elim, fun v H' h => h, fun σ' H' h => h.elim, fun σ' H' h => h.elim⟩
/-! ### the shop -/
theorem fl_same {C : Addr} {H H' : Hp} {x kt ls : Addr} {t j least : Int} {steps : List D} (h : FloorAt C H x kt ls t j least steps) (s : Same H H') : FloorAt C H' x kt ls t j least steps := by
  obtain ⟨dx, h1⟩ := h.ob
  obtain ⟨vs, h2, h3, h4⟩ := h.st
  exact ⟨⟨dx, s _ _ h1⟩, s _ _ h.kd, vs, s _ _ h2, h3, h4.mono s⟩
abbrev stLaw22 : Stmt := topS 71
abbrev NL22 : List Str := ["script", "bag", "tile", "half", "rows", "kind", "borders", "shop"]
theorem sc_law22 : FnScope NL22 ["script"] (defScope stLaw22) := ⟨rfl, rfl, rfl, by decide +kernel, rfl, by decide +kernel, by decide +kernel⟩
abbrev xL (P : Program) (w : World) (K : PySem.W.Frag) (mg : Str → Option Value) (base : Heap) (f : Addr) (cdv : Value) (A : Around) (outer : List Env) (s : Shared) (H : Hp) (E : XK) : Cx := cxOf (L2N.CX P w) P w K mg base NL22 "law" (defScope stLaw22) f cdv A outer s H E
abbrev spB0 (C : Addr) : Sp := fun vs H Q E => ∃ ws rest, vs = ws ++ rest ∧ ws.length = [("self" : Str)].length ∧ rest.length ≤ sizeLine ∧ ∀ p, H p = none → spBuildF C (ws ++ [V.ref p]) (upd H p (.tup rest)) Q E
theorem bw8 : bs36.map (fun d => PyData.int (bw 10 0 8 d)) = [.int 8, .int 8] := by
  show [PyData.int (bw 10 0 8 (bD 0 true)), PyData.int (bw 10 0 8 (bD 36 false))] = _
  rw [show bw 10 0 8 (bD 0 true) = 8 by decide +kernel, show bw 10 0 8 (bD 36 false) = 8 by decide +kernel]
theorem pss_shop {C fI fB fG fC pG : Addr} {fdI fdG fdC : FuncData} (T : FTxt K mg C) (M : Mk K C fI) (FI : FunD K "__init__" "Floor.__init__" (defArgs sInitF) (defBody sInitF) (defScope sInitF) [.int 0] [("least", .int 1)] fI fdI)
    (GI : FnOk P w K mg base (L2N.CX P w) 6 fI fdI ["self", "tile", "joint", "least"] (spInitF C)) (mB : Meth K C "build" fB) (GB : FnR P w K mg base (L2N.CX P w) 6 fB (spB0 C)) (hG : PropOf K C "good" pG fG) (GG : FnOk P w K mg base (L2N.CX P w) 1 fG fdG ["self"] (spS K (s_goodF C))) (bG : Binds K fdG ["self"] [])
    (cC : StX.CallO K C fC) (GC : FnOk P w K mg base (L2N.CX P w) 6 fC fdC ["self", "offset"] (spS K (s_callF C))) (bC : Binds K fdC ["self", "offset"] [])
    {f : Addr} {cdv : Value} {A : Around} {outer : List Env} {s : Shared} {H : Hp} {E : XK} {δ : List Slot} (hδ : δ.length = 8) (hr : Room 7 (A.deeper (envOfC "law" (defScope stLaw22) s.heap.objs.size f cdv))) : Pss (xL P w K mg base f cdv A outer s H E) δ ((defBody stLaw22).drop 10) lawE := by
  intro F σ H1 en tk
  have hl : 7 < σ.length := by rw [en.len, hδ]; decide
  obtain ⟨its, kb⟩ := FI.kbindsD (ps := ["self", "tile", "joint", "least"]) 2 ["least"] (fun us its ws => us ++ its ++ ws) (by simp) (fun r1 r2 r3 => (r1.append r2).append r3) (fun T kV doc pm an cdv ct us its ws l1 l2 l3 => by
    match us, its, ws, l1, l2, l3 with
    | [a, b], [d], [c], _, _, _ => exact ⟨_, rfl, rfl⟩)
  refine wss_of (L2.pss_cons (L2.ps_set (i := 7) sc_law22.nd rfl (.inl rfl) (L2.pe_makeN (n := 1) (ks := ["least"]) M GI hr rfl T.mgC kb passNo (L2.pa_cons L2.pe_int L2.pa_nil) (L2.pk_cons L2.pe_int L2.pk_nil)))
    (L2.pss_one (L2.ps_ret (L2.pe_cmpR (op_eqD hr.units) (L2.pe_lst (L2.pa_cons (L2.pe_methR (pv 7) T.cl mB GB (hr.mono (by decide)) passNo (L2.pa_cons (L2.pe_tup (L2.pa_cons L2.pe_int (L2.pa_cons L2.pe_str L2.pa_nil))) (L2.pa_cons (L2.pe_tup (L2.pa_cons L2.pe_int (L2.pa_cons L2.pe_str L2.pa_nil))) L2.pa_nil)))
      (L2.pa_cons (L2.pe_prop (pv 7) T.cl hG GG (hr.mono (by decide)) bG .nil passNo rfl) (L2.pa_cons (StX.pe_callO (pv 7) cC (GC.raw bC .nil) (hr.mono (by decide)) passNo (L2.pa_cons L2.pe_int L2.pa_nil)) L2.pa_nil)))) pe_self (nomark _))))) ?_
  refine ⟨rfl, rfl, fun x dx hx hdx hne => ⟨x, dx, rfl, upd_same, fun kt ls H2 hls FA kp => ⟨rfl, ?_⟩⟩⟩
  have s1 : Same H1 H2 := fun a o e => kp a o (ne_of_none e hx) (by rw [upd_ne (ne_of_none e hx), upd_ne (ne_of_none e hdx)]; exact e)
  have hls1 : H1 ls = none := by
    cases q : H1 ls with
    | none => rfl
    | some o => rw [upd_ne (ne_of_none q hx), upd_ne (ne_of_none q hdx), q] at hls; cases hls
  have e7 : (σ.set 7 (some (V.ref x)))[7]? = some (some (V.ref x)) := List.getElem?_set_self hl
  obtain ⟨dx2, f1⟩ := FA.ob
  refine ⟨_, e7, x, dx2, _, rfl, f1, fl_no _ _ _ (by decide +kernel) (by decide +kernel) (by decide +kernel), (by rw [sizeLine_eq]; simp), fun p1 hp1 => ⟨(by rw [sizeLine_eq]; simp), fun p2 hp2 => ?_⟩⟩
  refine ⟨[.ref x], [.ref p1, .ref p2], rfl, rfl, (by rw [sizeLine_eq]; simp), fun p3 hp3 => ⟨x, kt, ls, p3, rfl, fl_same FA (((same_upd hp1).trans (same_upd hp2)).trans (same_upd hp3)), ?_, fun H4 FA4 kp4 => ?_⟩⟩
  · have h12 : p1 ≠ p2 := fun z => by rw [← z, upd_same] at hp2; cases hp2
    have h13 : p1 ≠ p3 := fun z => by rw [← z, upd_ne h12, upd_same] at hp3; cases hp3
    have h23 : p2 ≠ p3 := fun z => by rw [← z, upd_same] at hp3; cases hp3
    exact .tup upd_same (by rw [sizeLine_eq]; simp) (.cons (.tup (by rw [upd_ne h13, upd_ne h12, upd_same]; rfl) (by rw [sizeLine_eq]; simp) (.cons (.int 0) (.cons (.str _) .nil))) (.cons (.tup (by rw [upd_ne h23, upd_same]; rfl) (by rw [sizeLine_eq]; simp) (.cons (.int 36) (.cons (.str _) .nil))) .nil))
  have s4 : Same H1 H4 := fun a o e => kp4 a o (ne_of_none e hls1) (same_upd hp3 _ _ (same_upd hp2 _ _ (same_upd hp1 _ _ (s1 a o e))))
  obtain ⟨dx4, f4⟩ := FA4.ob
  refine ⟨_, e7, x, dx4, _, rfl, f4, [], [], [flS x C step1], fun d => d = .tuple gs36, fun _ => False, glo00, (fun a m => nomatch m), .cons ⟨rfl, FA4.slot⟩ .nil, ⟨x, step0, _, _, rfl, rfl⟩, fun d hd v5 H5 k5 g5 t5 => ?_, fun c hc => hc.elim⟩
  subst hd
  have s5 : Same H4 H5 := kp_same k5
  have t5 : Td (mask [] H5) v5 (.tuple gs36) := t5
  rw [mask_nil] at t5
  have FA5 := fl_same FA4 s5
  obtain ⟨dx5, f5⟩ := FA5.ob
  refine ⟨_, e7, x, rfl, .inr ⟨dx5, _, f5⟩, [], [], [flS x C step1, .d (.int 8)], fun d => d = .tuple [.int 8, .int 8], fun _ => False, glo00, (fun a m => nomatch m), .cons ⟨rfl, FA5.slot⟩ (.cons ⟨rfl, _, rfl, .int 8⟩ .nil), ⟨x, step0, bs36, _, 8, rfl, ⟨by decide, by decide⟩, b36_all, by decide, congrArg PyData.tuple bw8⟩, fun d hd v6 H6 k6 g6 t6 => ?_, fun c hc => hc.elim⟩
  subst hd
  have s6 : Same H5 H6 := kp_same k6
  have t6 : Td (mask [] H6) v6 (.tuple [.int 8, .int 8]) := t6
  rw [mask_nil] at t6
  refine ⟨(by rw [sizeLine_eq]; simp), fun p7 hp7 => ?_⟩
  have en7 : En K (F00 (upd H6 p7 (.lst [.int 5, v5, v6]))) (List.replicate 8 .un) (σ.set 7 (some (V.ref x))) (upd H6 p7 (.lst [.int 5, v5, v6])) := en_now (by rw [List.length_set, en.len, hδ]; rfl) (by
    intro i s hs
    have : s = .un := (List.mem_replicate.mp (List.mem_of_getElem? hs)).2
    subst this
    exact ⟨rfl, True.intro⟩)
  have hR : ∀ {e : Expr} {Q' : VK}, Pe (xL P w K mg base f cdv A outer s H E) nope (List.replicate 8 .un) e (fun d => d = .list [.int 5, .tuple gs36, .tuple [.int 8, .int 8]]) → (∀ v H', Same (upd H6 p7 (.lst [.int 5, v5, v6])) H' → Td H' v (.list [.int 5, .tuple gs36, .tuple [.int 8, .int 8]]) → Q' v H') →
      WE (xL P w K mg base f cdv A outer s H E) e (σ.set 7 (some (V.ref x))) (upd H6 p7 (.lst [.int 5, v5, v6])) Q' := fun {e Q'} hP h =>
    we_mono (hP (F00 _) _ _ en7 (takesN takesNo)) fun v H' ⟨en2, k2, d, td, hd⟩ => by
      subst hd
      have td : Td (mask [] H') v (.list [.int 5, .tuple gs36, .tuple [.int 8, .int 8]]) := td
      rw [mask_nil] at td
      exact h v H' (kp_same k2) td
  refine hR ?_ fun v8 H8 s8 t8 => ?_
  · refine Tl.pe_ls ?_
    refine Tl.pa_cons ?_
    refine Tl.pe_i ?_
    refine Tl.pa_cons ?_
    refine Tl.pe_tp ?_
    refine Tl.pa_cons ?_
    refine Tl.pe_i ?_
    refine Tl.pa_cons ?_
    refine Tl.pe_i ?_
    refine Tl.pa_cons ?_
    refine Tl.pe_i ?_
    refine Tl.pa_cons ?_
    refine Tl.pe_i ?_
    refine Tl.pa_cons ?_
    refine Tl.pe_i ?_
    refine Tl.pa_nil ?_
    refine ⟨[_, _, _, _, _], rfl, (by first | decide | (simp; done)), ?_⟩
    refine Tl.pa_cons ?_
    refine Tl.pe_tp ?_
    refine Tl.pa_cons ?_
    refine Tl.pe_i ?_
    refine Tl.pa_cons ?_
    refine Tl.pe_i ?_
    refine Tl.pa_nil ?_
    refine ⟨[_, _], rfl, (by first | decide | (simp; done)), ?_⟩
    refine Tl.pa_nil ?_
    refine ⟨[_, _, _], rfl, (by first | decide | (simp; done)), ?_⟩
    rfl
  have sAll : Same H1 H8 := fun a o e => s8 _ _ (same_upd hp7 _ _ (s6 _ _ (s5 _ _ (s4 a o e))))
  have s68 : Same H6 H8 := fun a o e => s8 _ _ (same_upd hp7 _ _ e)
  refine ⟨.list [.int 5, .tuple gs36, .tuple [.int 8, .int 8]], _, Td.dp (.lst (s8 _ _ upd_same) (by rw [sizeLine_eq]; simp) (.cons (.int 5) (.cons ((t5.mono s6).mono s68) (.cons (t6.mono s68) .nil)))), t8.dp, (by decide +kernel), (by decide +kernel), ?_⟩
  rw [show PyData.eqv (.list [.int 5, .tuple gs36, .tuple [.int 8, .int 8]]) (.list [.int 5, .tuple gs36, .tuple [.int 8, .int 8]]) = true by decide +kernel]
  exact ret_of en (en.same sAll) (.bl true) rfl
/-- what the law asks of the class, in one -/
structure ShopOk (P : Program) (w : World) (K : PySem.W.Frag) (mg : Str → Option Value) (base : Heap) : Prop where
  ex : ∃ (C fI fB fG fC pG : Addr) (fdI fdG fdC : FuncData), FTxt K mg C ∧ Mk K C fI ∧ FunD K "__init__" "Floor.__init__" (defArgs sInitF) (defBody sInitF) (defScope sInitF) [.int 0] [("least", .int 1)] fI fdI ∧ FnOk P w K mg base (L2N.CX P w) 6 fI fdI ["self", "tile", "joint", "least"] (spInitF C) ∧
    Meth K C "build" fB ∧ FnR P w K mg base (L2N.CX P w) 6 fB (spB0 C) ∧ PropOf K C "good" pG fG ∧ FnOk P w K mg base (L2N.CX P w) 1 fG fdG ["self"] (spS K (s_goodF C)) ∧ Binds K fdG ["self"] [] ∧
    StX.CallO K C fC ∧ FnOk P w K mg base (L2N.CX P w) 6 fC fdC ["self", "offset"] (spS K (s_callF C)) ∧ Binds K fdC ["self", "offset"] []
theorem pss_shop_of (S : ShopOk P w K mg base) {f : Addr} {cdv : Value} {A : Around} {outer : List Env} {s : Shared} {H : Hp} {E : XK} {δ : List Slot} (hδ : δ.length = 8) (hr : Room 7 (A.deeper (envOfC "law" (defScope stLaw22) s.heap.objs.size f cdv))) : Pss (xL P w K mg base f cdv A outer s H E) δ ((defBody stLaw22).drop 10) lawE := by
  obtain ⟨C, fI, fB, fG, fC, pG, fdI, fdG, fdC, h1, h2, h3, h4, h5, h6, h7, h8, h9, h10, h11, h12⟩ := S.ex
  exact pss_shop h1 h2 h3 h4 h5 h6 h7 h8 h9 h10 h11 h12 hδ hr
end

abbrev st_law : Stmt := topS 71
theorem sc_law : FnScope ["script", "bag", "tile", "half", "rows", "kind", "borders", "shop"] ["script"] (defScope st_law) := ⟨rfl, rfl, rfl, by decide +kernel, rfl, by decide +kernel, by decide +kernel⟩
theorem ok_law {cl_InvalidBorder cl_InvalidKind cl_InvalidNumber cl_InvalidOffset cl_InvalidRow cl_InvalidSeen cl_InvalidSide : Addr} {fa : Addr} {fd : FuncData} (F : Fun K "law" "law" st_law fa fd) (m_min : mg "min" = none) (g_law_take : Ok P w K mg base 1 "_law_take" ["bag", "many"] s_law_take) (g_law_opposite_right : Ok P w K mg base 6 "_law_opposite_right" ["tile", "rest"] s_law_opposite_right) (g_law_whole_right : Ok P w K mg base 7 "_law_whole_right" ["tile", "joint_so", "many"] s_law_whole_right) (g_tiles_needed : Ok P w K mg base 6 "tiles_needed" ["kind", "offset", "rows", "saw"] (s_tiles_needed cl_InvalidKind cl_InvalidOffset cl_InvalidRow cl_InvalidNumber)) (g_row_pieces : Ok P w K mg base 4 "row_pieces" ["kind", "offset", "row"] (s_row_pieces cl_InvalidKind cl_InvalidOffset cl_InvalidRow)) (g_best_offsets : Ok P w K mg base 5 "best_offsets" ["kind", "borders"] (s_best_offsets cl_InvalidKind cl_InvalidBorder)) (g_even_offsets : Ok P w K mg base 4 "even_offsets" ["kind", "row"] (s_even_offsets cl_InvalidKind cl_InvalidRow)) (g_good_shifted : Ok P w K mg base 5 "good_shifted" ["kind", "borders", "least", "shifts"] (s_good_shifted cl_InvalidKind cl_InvalidBorder cl_InvalidNumber)) (g_widest_shifted : Ok P w K mg base 5 "widest_shifted" ["kind", "borders", "shifts"] (s_widest_shifted cl_InvalidKind cl_InvalidBorder cl_InvalidNumber)) (g_pairs : Ok P w K mg base 5 "pairs" ["kind", "offset", "rows", "saw"] (s_pairs cl_InvalidKind cl_InvalidOffset cl_InvalidRow cl_InvalidNumber)) (g_fewest_tiles : Ok P w K mg base 6 "fewest_tiles" ["kind", "rows", "saw"] (s_fewest_tiles cl_InvalidKind cl_InvalidRow cl_InvalidNumber)) (g_cheap_offsets : Ok P w K mg base 6 "cheap_offsets" ["kind", "rows", "saw", "number"] (s_cheap_offsets cl_InvalidKind cl_InvalidRow cl_InvalidNumber)) (g_good_tiles : Ok P w K mg base 5 "good_tiles" ["joint", "borders", "least", "low", "high"] (s_good_tiles cl_InvalidBorder cl_InvalidNumber)) (g_free_places : Ok P w K mg base 5 "free_places" ["kind", "borders", "least", "side"] (s_free_places cl_InvalidKind cl_InvalidBorder cl_InvalidNumber cl_InvalidSide)) (g_offsets_for : Ok P w K mg base 5 "offsets_for" ["kind", "seen"] (s_offsets_for cl_InvalidKind cl_InvalidSeen)) (g_needless_borders : Ok P w K mg base 5 "needless_borders" ["kind", "borders", "least"] (s_needless_borders cl_InvalidKind cl_InvalidBorder cl_InvalidNumber)) (g_law_bags : OkBags P w K mg base 3) (g_shop : ShopOk P w K mg base) : FnOk P w K mg base (L2N.CX P w) 8 fa fd ["script"] (spLaw K) := by
  refine law_fn F sc_law ?_
  intro cdv A outer s H E a ns hr hS hlen
  refine law_run (N := 7) (j := 1) (ns := ns) [] g_law_bags hr (by decide) (passes_of rfl) rfl sc_law.nd (by decide) (by decide) (by decide) rfl ?_ ?_ glo00 (fun _ m => nomatch m) rfl rfl hS ((L2N.takes_of rfl rfl rfl rfl).imp fun _ _ _ _ z => z.elim)
  · intro b
    show Pss _ [.scr ns, .bag b, .un, .un, .un, .un, .un, .un] _ _
    refine Tl.pss_cons ?_
    refine Tl.ps_as 2 sc_law.nd ?_
    refine Tl.pe_add ?_
    refine Tl.pe_i ?_
    refine Tl.pe_call g_law_take hr (by decide) ?_
    refine Tl.pa_bag 1 rfl ?_
    refine Tl.pa_cons ?_
    refine Tl.pe_i ?_
    refine Tl.pa_nil ?_
    refine ⟨_, _, rfl, by omega, fun t0 t01 t02 => ?_⟩
    refine ⟨_, _, rfl, rfl, ?_⟩
    refine Tl.pss_cons ?_
    refine Tl.ps_if ?_
    refine Tl.pt_not ?_
    refine Tl.pt_e ?_
    refine Tl.pe_call g_law_opposite_right hr (by decide) ?_
    refine Tl.pa_cons ?_
    refine Tl.pe_nm 2 rfl ?_
    refine Tl.pa_cons ?_
    refine Tl.pe_call g_law_take hr (by decide) ?_
    refine Tl.pa_bag 1 rfl ?_
    refine Tl.pa_cons ?_
    refine Tl.pe_nm 2 rfl ?_
    refine Tl.pa_nil ?_
    refine ⟨_, _, rfl, by omega, fun r r1 r2 => ?_⟩
    refine Tl.pa_nil ?_
    refine ⟨_, _, rfl, ⟨by omega, by omega⟩, ⟨by omega, by omega⟩, ?_⟩
    refine ⟨_, rfl, ?_⟩
    refine iteB (fun h1 => ?_) (fun h1 => ?_)
    · skip
      try simp only [eqv_int, eqv_side, eqv_sideL, Bool.not_eq_true, Bool.not_eq_false, decide_eq_true_eq, decide_eq_false_iff_not, Bool.not_eq_true', Bool.not_eq_false'] at h1
      cases h1
    · skip
      try simp only [eqv_int, eqv_side, eqv_sideL, Bool.not_eq_true, Bool.not_eq_false, decide_eq_true_eq, decide_eq_false_iff_not, Bool.not_eq_true', Bool.not_eq_false'] at h1
      refine Tl.pss_nil ?_
      refine Tl.pss_cons ?_
      refine Tl.ps_if ?_
      refine Tl.pt_not ?_
      refine Tl.pt_e ?_
      refine Tl.pe_call g_law_whole_right hr (by decide) ?_
      refine Tl.pa_cons ?_
      refine Tl.pe_nm 2 rfl ?_
      refine Tl.pa_cons ?_
      refine Tl.pe_call g_law_take hr (by decide) ?_
      refine Tl.pa_bag 1 rfl ?_
      refine Tl.pa_cons ?_
      refine Tl.pe_min2 rfl m_min ?_
      refine Tl.pe_i ?_
      refine Tl.pe_nm 2 rfl ?_
      refine ⟨_, _, rfl, rfl, ?_⟩
      refine Tl.pa_nil ?_
      refine ⟨_, _, rfl, by omega, fun jn jn1 jn2 => ?_⟩
      refine Tl.pa_cons ?_
      refine Tl.pe_add ?_
      refine Tl.pe_i ?_
      refine Tl.pe_call g_law_take hr (by decide) ?_
      refine Tl.pa_bag 1 rfl ?_
      refine Tl.pa_cons ?_
      refine Tl.pe_i ?_
      refine Tl.pa_nil ?_
      refine ⟨_, _, rfl, by omega, fun n0 n01 n02 => ?_⟩
      refine ⟨_, _, rfl, rfl, ?_⟩
      refine Tl.pa_nil ?_
      refine ⟨_, _, _, rfl, ⟨by omega, by omega⟩, ⟨by omega, by omega, by omega⟩, ⟨by omega, by omega⟩, ?_⟩
      refine ⟨_, rfl, ?_⟩
      refine iteB (fun h2 => ?_) (fun h2 => ?_)
      · skip
        try simp only [eqv_int, eqv_side, eqv_sideL, Bool.not_eq_true, Bool.not_eq_false, decide_eq_true_eq, decide_eq_false_iff_not, Bool.not_eq_true', Bool.not_eq_false'] at h2
        cases h2
      · skip
        try simp only [eqv_int, eqv_side, eqv_sideL, Bool.not_eq_true, Bool.not_eq_false, decide_eq_true_eq, decide_eq_false_iff_not, Bool.not_eq_true', Bool.not_eq_false'] at h2
        refine Tl.pss_nil ?_
        refine Tl.pss_cons ?_
        refine Tl.ps_as 3 sc_law.nd ?_
        refine Tl.pe_add ?_
        refine Tl.pe_i ?_
        refine Tl.pe_call g_law_take hr (by decide) ?_
        refine Tl.pa_bag 1 rfl ?_
        refine Tl.pa_cons ?_
        refine Tl.pe_i ?_
        refine Tl.pa_nil ?_
        refine ⟨_, _, rfl, by omega, fun h0 h01 h02 => ?_⟩
        refine ⟨_, _, rfl, rfl, ?_⟩
        have hh0 : 0 < 1 + h0 := by omega
        have hh1 : 1 + h0 ≤ 100 := by omega
        generalize 1 + h0 = h at *
        refine Tl.pss_cons ?_
        refine Tl.ps_as 4 sc_law.nd ?_
        refine Tl.pe_tp ?_
        refine Tl.pa_cons ?_
        refine Tl.pe_tp ?_
        refine Tl.pa_cons ?_
        refine Tl.pe_i ?_
        refine Tl.pa_cons ?_
        refine Tl.pe_mul ?_
        refine Tl.pe_i ?_
        refine Tl.pe_nm 3 rfl ?_
        refine ⟨_, _, rfl, rfl, (by first | exact .inl ⟨by omega, by omega⟩ | exact .inr ⟨by omega, by omega⟩), ?_⟩
        refine Tl.pa_nil ?_
        refine ⟨[_, _], rfl, (by first | decide | (simp; done)), ?_⟩
        refine Tl.pa_cons ?_
        refine Tl.pe_tp ?_
        refine Tl.pa_cons ?_
        refine Tl.pe_nm 3 rfl ?_
        refine Tl.pa_cons ?_
        refine Tl.pe_mul ?_
        refine Tl.pe_i ?_
        refine Tl.pe_nm 3 rfl ?_
        refine ⟨_, _, rfl, rfl, (by first | exact .inl ⟨by omega, by omega⟩ | exact .inr ⟨by omega, by omega⟩), ?_⟩
        refine Tl.pa_nil ?_
        refine ⟨[_, _], rfl, (by first | decide | (simp; done)), ?_⟩
        refine Tl.pa_nil ?_
        refine ⟨[_, _], rfl, (by first | decide | (simp; done)), ?_⟩
        refine Tl.pss_cons ?_
        refine Tl.ps_if ?_
        refine Tl.pt_w ?_
        refine Tl.pw_or ?_
        refine Tl.pt_ne hr.units ?_
        refine Tl.pe_call g_tiles_needed hr (by decide) ?_
        refine Tl.pa_cons ?_
        refine Tl.pe_tp ?_
        refine Tl.pa_cons ?_
        refine Tl.pe_mul ?_
        refine Tl.pe_i ?_
        refine Tl.pe_nm 3 rfl ?_
        refine ⟨_, _, rfl, rfl, (by first | exact .inl ⟨by omega, by omega⟩ | exact .inr ⟨by omega, by omega⟩), ?_⟩
        refine Tl.pa_cons ?_
        refine Tl.pe_i ?_
        refine Tl.pa_nil ?_
        refine ⟨[_, _], rfl, (by first | decide | (simp; done)), ?_⟩
        refine Tl.pa_cons ?_
        refine Tl.pe_i ?_
        refine Tl.pa_cons ?_
        refine Tl.pe_nm 4 rfl ?_
        refine Tl.pa_cons ?_
        refine Tl.pe_i ?_
        refine Tl.pa_nil ?_
        refine s_kors_ok (rs := [(0, 7 * h), (h, 8 * h)]) (show IsKind (2 * h) 0 from ⟨by omega, by omega, by decide, by decide⟩) (by decide) (by omega) (show Rows (2 * h) 0 [(0, 7 * h), (h, 8 * h)] from ⟨by simp, by simp, fun p hp => by rcases pick2P hp with rfl | rfl <;> exact ⟨by simp only; omega, by simp only; omega, by simp only; omega, by simp only; omega, by simp only; omega⟩⟩) (by decide) (by decide) ?_
        refine Tl.pe_i ?_
        refine ⟨(by first | rfl | assumption | exact ints_shaped _ | exact shaped_side _ | decide +kernel), (by first | rfl | assumption | exact ints_shaped _ | exact shaped_side _ | decide +kernel), ?_⟩
        refine iteB (fun h3 => ?_) (fun h3 => ?_)
        · skip
          try simp only [eqv_int, eqv_side, eqv_sideL, Bool.not_eq_true, Bool.not_eq_false, decide_eq_true_eq, decide_eq_false_iff_not, Bool.not_eq_true', Bool.not_eq_false'] at h3
          exact absurd ((half_need hh0 (by decide)).trans (if_pos rfl)) h3
        · skip
          try simp only [eqv_int, eqv_side, eqv_sideL, Bool.not_eq_true, Bool.not_eq_false, decide_eq_true_eq, decide_eq_false_iff_not, Bool.not_eq_true', Bool.not_eq_false'] at h3
          refine Tl.pw_or1 ?_
          refine Tl.pt_ne hr.units ?_
          refine Tl.pe_call g_tiles_needed hr (by decide) ?_
          refine Tl.pa_cons ?_
          refine Tl.pe_tp ?_
          refine Tl.pa_cons ?_
          refine Tl.pe_mul ?_
          refine Tl.pe_i ?_
          refine Tl.pe_nm 3 rfl ?_
          refine ⟨_, _, rfl, rfl, (by first | exact .inl ⟨by omega, by omega⟩ | exact .inr ⟨by omega, by omega⟩), ?_⟩
          refine Tl.pa_cons ?_
          refine Tl.pe_i ?_
          refine Tl.pa_nil ?_
          refine ⟨[_, _], rfl, (by first | decide | (simp; done)), ?_⟩
          refine Tl.pa_cons ?_
          refine Tl.pe_i ?_
          refine Tl.pa_cons ?_
          refine Tl.pe_nm 4 rfl ?_
          refine Tl.pa_cons ?_
          refine Tl.pe_i ?_
          refine Tl.pa_nil ?_
          refine s_kors_ok (rs := [(0, 7 * h), (h, 8 * h)]) (show IsKind (2 * h) 0 from ⟨by omega, by omega, by decide, by decide⟩) (by decide) (by omega) (show Rows (2 * h) 0 [(0, 7 * h), (h, 8 * h)] from ⟨by simp, by simp, fun p hp => by rcases pick2P hp with rfl | rfl <;> exact ⟨by simp only; omega, by simp only; omega, by simp only; omega, by simp only; omega, by simp only; omega⟩⟩) (by decide) (by decide) ?_
          refine Tl.pe_i ?_
          refine ⟨(by first | rfl | assumption | exact ints_shaped _ | exact shaped_side _ | decide +kernel), (by first | rfl | assumption | exact ints_shaped _ | exact shaped_side _ | decide +kernel), ?_⟩
          refine iteB (fun h4 => ?_) (fun h4 => ?_)
          · skip
            try simp only [eqv_int, eqv_side, eqv_sideL, Bool.not_eq_true, Bool.not_eq_false, decide_eq_true_eq, decide_eq_false_iff_not, Bool.not_eq_true', Bool.not_eq_false'] at h4
            exact absurd ((half_need hh0 (by decide)).trans (if_neg (by decide))) h4
          · skip
            try simp only [eqv_int, eqv_side, eqv_sideL, Bool.not_eq_true, Bool.not_eq_false, decide_eq_true_eq, decide_eq_false_iff_not, Bool.not_eq_true', Bool.not_eq_false'] at h4
            refine Tl.pss_nil ?_
            refine Tl.pss_nil ?_
            exact ⟨rfl, rfl⟩
  · show Pss _ [.scr ns, .un, .un, .un, .un, .un, .un, .un] _ _
    refine Tl.pss_cons ?_
    refine @Tl.ps_unp _ _ _ _ _ _ [5, 6, 4] (pg_tup rfl (pgs_cons (pg_name (i := 5) sc_law.nd rfl (by first | exact Or.inl rfl | exact Or.inr rfl)) (pgs_cons (pg_name (i := 6) sc_law.nd rfl (by first | exact Or.inl rfl | exact Or.inr rfl)) (pgs_cons (pg_name (i := 4) sc_law.nd rfl (by first | exact Or.inl rfl | exact Or.inr rfl)) pgs_nil)))) ?_ rfl rfl rfl
    refine Tl.pe_tp ?_
    refine Tl.pa_cons ?_
    refine Tl.pe_tp ?_
    refine Tl.pa_cons ?_
    refine Tl.pe_i ?_
    refine Tl.pa_cons ?_
    refine Tl.pe_i ?_
    refine Tl.pa_nil ?_
    refine ⟨[_, _], rfl, (by first | decide | (simp; done)), ?_⟩
    refine Tl.pa_cons ?_
    refine Tl.pe_tp ?_
    refine Tl.pa_cons ?_
    refine Tl.pe_tp ?_
    refine Tl.pa_cons ?_
    refine Tl.pe_i ?_
    refine Tl.pa_cons ?_
    refine Tl.pe_s ?_
    refine Tl.pa_nil ?_
    refine ⟨[_, _], rfl, (by first | decide | (simp; done)), ?_⟩
    refine Tl.pa_cons ?_
    refine Tl.pe_tp ?_
    refine Tl.pa_cons ?_
    refine Tl.pe_i ?_
    refine Tl.pa_cons ?_
    refine Tl.pe_s ?_
    refine Tl.pa_nil ?_
    refine ⟨[_, _], rfl, (by first | decide | (simp; done)), ?_⟩
    refine Tl.pa_nil ?_
    refine ⟨[_, _], rfl, (by first | decide | (simp; done)), ?_⟩
    refine Tl.pa_cons ?_
    refine Tl.pe_tp ?_
    refine Tl.pa_cons ?_
    refine Tl.pe_tp ?_
    refine Tl.pa_cons ?_
    refine Tl.pe_i ?_
    refine Tl.pa_cons ?_
    refine Tl.pe_i ?_
    refine Tl.pa_nil ?_
    refine ⟨[_, _], rfl, (by first | decide | (simp; done)), ?_⟩
    refine Tl.pa_cons ?_
    refine Tl.pe_tp ?_
    refine Tl.pa_cons ?_
    refine Tl.pe_i ?_
    refine Tl.pa_cons ?_
    refine Tl.pe_i ?_
    refine Tl.pa_nil ?_
    refine ⟨[_, _], rfl, (by first | decide | (simp; done)), ?_⟩
    refine Tl.pa_nil ?_
    refine ⟨[_, _], rfl, (by first | decide | (simp; done)), ?_⟩
    refine Tl.pa_nil ?_
    refine ⟨[_, _, _], rfl, (by first | decide | (simp; done)), ?_⟩
    refine ⟨_, rfl, ?_⟩
    refine Tl.pss_cons ?_
    refine Tl.ps_if ?_
    refine Tl.pt_ne hr.units ?_
    refine Tl.pe_call g_row_pieces hr (by decide) ?_
    refine Tl.pa_cons ?_
    refine Tl.pe_nm 5 rfl ?_
    refine Tl.pa_cons ?_
    refine Tl.pe_i ?_
    refine Tl.pa_cons ?_
    refine Tl.pe_tp ?_
    refine Tl.pa_cons ?_
    refine Tl.pe_i ?_
    refine Tl.pa_cons ?_
    refine Tl.pe_i ?_
    refine Tl.pa_nil ?_
    refine ⟨[_, _], rfl, (by first | decide | (simp; done)), ?_⟩
    refine Tl.pa_nil ?_
    refine s_row_pieces_ok k10 (by decide) (by decide) ⟨by decide, by decide, by decide, by decide, by decide⟩ ?_
    refine Tl.pe_tp ?_
    refine Tl.pa_cons ?_
    refine Tl.pe_i ?_
    refine Tl.pa_cons ?_
    refine Tl.pe_i ?_
    refine Tl.pa_cons ?_
    refine Tl.pe_i ?_
    refine Tl.pa_nil ?_
    refine ⟨[_, _, _], rfl, (by first | decide | (simp; done)), ?_⟩
    refine ⟨(by first | rfl | assumption | exact ints_shaped _ | exact shaped_side _ | decide +kernel), (by first | rfl | assumption | exact ints_shaped _ | exact shaped_side _ | decide +kernel), ?_⟩
    refine iteB (fun h5 => ?_) (fun h5 => ?_)
    · skip
      try simp only [eqv_int, eqv_side, eqv_sideL, Bool.not_eq_true, Bool.not_eq_false, decide_eq_true_eq, decide_eq_false_iff_not, Bool.not_eq_true', Bool.not_eq_false'] at h5
      exact absurd h5 (by decide +kernel)
    · skip
      try simp only [eqv_int, eqv_side, eqv_sideL, Bool.not_eq_true, Bool.not_eq_false, decide_eq_true_eq, decide_eq_false_iff_not, Bool.not_eq_true', Bool.not_eq_false'] at h5
      refine Tl.pss_nil ?_
      refine Tl.pss_cons ?_
      refine Tl.ps_if ?_
      refine Tl.pt_ne hr.units ?_
      refine Tl.pe_ls ?_
      refine Tl.pa_cons ?_
      refine Tl.pe_call g_best_offsets hr (by decide) ?_
      refine Tl.pa_cons ?_
      refine Tl.pe_nm 5 rfl ?_
      refine Tl.pa_cons ?_
      refine Tl.pe_nm 6 rfl ?_
      refine Tl.pa_nil ?_
      refine s_kb_ok (ds := [bD 0 true, bD 36 false]) k10 (two_b (p := 0) (q := 36) (a := true) (c := false) ⟨by decide, by decide⟩ ⟨by decide, by decide⟩) ?_
      rw [show good 10 0 [bD 0 true, bD 36 false] (widest 10 0 [bD 0 true, bD 36 false]) = [8] by decide +kernel]
      refine Tl.pa_cons ?_
      refine Tl.pe_call g_even_offsets hr (by decide) ?_
      refine Tl.pa_cons ?_
      refine Tl.pe_nm 5 rfl ?_
      refine Tl.pa_cons ?_
      refine Tl.pe_tp ?_
      refine Tl.pa_cons ?_
      refine Tl.pe_i ?_
      refine Tl.pa_cons ?_
      refine Tl.pe_i ?_
      refine Tl.pa_nil ?_
      refine ⟨[_, _], rfl, (by first | decide | (simp; done)), ?_⟩
      refine Tl.pa_nil ?_
      refine s_even_offsets_ok k10 ⟨by decide, by decide, by decide, by decide, by decide⟩ ?_
      rw [show evn 10 0 0 36 = [3, 8] by decide +kernel]
      refine Tl.pa_nil ?_
      refine ⟨[_, _], rfl, (by first | decide | (simp; done)), ?_⟩
      refine Tl.pe_ls ?_
      refine Tl.pa_cons ?_
      refine Tl.pe_ls ?_
      refine Tl.pa_cons ?_
      refine Tl.pe_i ?_
      refine Tl.pa_nil ?_
      refine ⟨[_], rfl, (by first | decide | (simp; done)), ?_⟩
      refine Tl.pa_cons ?_
      refine Tl.pe_ls ?_
      refine Tl.pa_cons ?_
      refine Tl.pe_i ?_
      refine Tl.pa_cons ?_
      refine Tl.pe_i ?_
      refine Tl.pa_nil ?_
      refine ⟨[_, _], rfl, (by first | decide | (simp; done)), ?_⟩
      refine Tl.pa_nil ?_
      refine ⟨[_, _], rfl, (by first | decide | (simp; done)), ?_⟩
      refine ⟨(by first | rfl | assumption | exact ints_shaped _ | exact shaped_side _ | decide +kernel), (by first | rfl | assumption | exact ints_shaped _ | exact shaped_side _ | decide +kernel), ?_⟩
      refine iteB (fun h6 => ?_) (fun h6 => ?_)
      · skip
        try simp only [eqv_int, eqv_side, eqv_sideL, Bool.not_eq_true, Bool.not_eq_false, decide_eq_true_eq, decide_eq_false_iff_not, Bool.not_eq_true', Bool.not_eq_false'] at h6
        exact absurd h6 (by decide +kernel)
      · skip
        try simp only [eqv_int, eqv_side, eqv_sideL, Bool.not_eq_true, Bool.not_eq_false, decide_eq_true_eq, decide_eq_false_iff_not, Bool.not_eq_true', Bool.not_eq_false'] at h6
        refine Tl.pss_nil ?_
        refine Tl.pss_cons ?_
        refine Tl.ps_if ?_
        refine Tl.pt_ne hr.units ?_
        refine Tl.pe_call g_good_shifted hr (by decide) ?_
        refine Tl.pa_cons ?_
        refine Tl.pe_nm 5 rfl ?_
        refine Tl.pa_cons ?_
        refine Tl.pe_nm 6 rfl ?_
        refine Tl.pa_cons ?_
        refine Tl.pe_i ?_
        refine Tl.pa_cons ?_
        refine Tl.pe_i ?_
        refine Tl.pa_nil ?_
        refine s_good_shifted_ok (ds := [bD 0 true, bD 36 false]) k10 (two_b (p := 0) (q := 36) (a := true) (c := false) ⟨by decide, by decide⟩ ⟨by decide, by decide⟩) (by decide) (by decide) (by decide) (by decide) (by decide) ?_
        refine Tl.pe_ls ?_
        refine Tl.pa_cons ?_
        refine Tl.pe_i ?_
        refine Tl.pa_cons ?_
        refine Tl.pe_i ?_
        refine Tl.pa_nil ?_
        refine ⟨[_, _], rfl, (by first | decide | (simp; done)), ?_⟩
        refine ⟨(by first | rfl | assumption | exact ints_shaped _ | exact shaped_side _ | decide +kernel), (by first | rfl | assumption | exact ints_shaped _ | exact shaped_side _ | decide +kernel), ?_⟩
        refine iteB (fun h7 => ?_) (fun h7 => ?_)
        · skip
          try simp only [eqv_int, eqv_side, eqv_sideL, Bool.not_eq_true, Bool.not_eq_false, decide_eq_true_eq, decide_eq_false_iff_not, Bool.not_eq_true', Bool.not_eq_false'] at h7
          exact absurd h7 (by decide +kernel)
        · skip
          try simp only [eqv_int, eqv_side, eqv_sideL, Bool.not_eq_true, Bool.not_eq_false, decide_eq_true_eq, decide_eq_false_iff_not, Bool.not_eq_true', Bool.not_eq_false'] at h7
          refine Tl.pss_nil ?_
          refine Tl.pss_cons ?_
          refine Tl.ps_if ?_
          refine Tl.pt_ne hr.units ?_
          refine Tl.pe_ls ?_
          refine Tl.pa_cons ?_
          refine Tl.pe_call g_widest_shifted hr (by decide) ?_
          refine Tl.pa_cons ?_
          refine Tl.pe_nm 5 rfl ?_
          refine Tl.pa_cons ?_
          refine Tl.pe_nm 6 rfl ?_
          refine Tl.pa_cons ?_
          refine Tl.pe_i ?_
          refine Tl.pa_nil ?_
          refine s_widest_shifted_ok (ds := [bD 0 true, bD 36 false]) k10 (two_b (p := 0) (q := 36) (a := true) (c := false) ⟨by decide, by decide⟩ ⟨by decide, by decide⟩) (by decide) (by decide) (by decide) ?_
          refine Tl.pa_cons ?_
          refine Tl.pe_call g_pairs hr (by decide) ?_
          refine Tl.pa_cons ?_
          refine Tl.pe_nm 5 rfl ?_
          refine Tl.pa_cons ?_
          refine Tl.pe_i ?_
          refine Tl.pa_cons ?_
          refine Tl.pe_nm 4 rfl ?_
          refine Tl.pa_cons ?_
          refine Tl.pe_i ?_
          refine Tl.pa_nil ?_
          refine s_kors_ok (rs := [(0, 33), (5, 38)]) k10 (by decide) (by decide) (show Rows 10 0 [(0, 33), (5, 38)] from ⟨by decide, by decide, fun p hp => by rcases pick2P hp with rfl | rfl <;> exact ⟨by decide, by decide, by decide, by decide, by decide⟩⟩) (by decide) (by decide) ?_
          intro ps hps
          have hps := ex11 hps
          subst hps
          refine Tl.pa_nil ?_
          refine ⟨[_, _], rfl, (by first | decide | (simp; done)), ?_⟩
          refine Tl.pe_ls ?_
          refine Tl.pa_cons ?_
          refine Tl.pe_i ?_
          refine Tl.pa_cons ?_
          refine Tl.pe_ls ?_
          refine Tl.pa_cons ?_
          refine Tl.pe_tp ?_
          refine Tl.pa_cons ?_
          refine Tl.pe_i ?_
          refine Tl.pa_cons ?_
          refine Tl.pe_i ?_
          refine Tl.pa_nil ?_
          refine ⟨[_, _], rfl, (by first | decide | (simp; done)), ?_⟩
          refine Tl.pa_nil ?_
          refine ⟨[_], rfl, (by first | decide | (simp; done)), ?_⟩
          refine Tl.pa_nil ?_
          refine ⟨[_, _], rfl, (by first | decide | (simp; done)), ?_⟩
          refine ⟨(by first | rfl | assumption | exact ints_shaped _ | exact shaped_side _ | decide +kernel), (by first | rfl | assumption | exact ints_shaped _ | exact shaped_side _ | decide +kernel), ?_⟩
          refine iteB (fun h8 => ?_) (fun h8 => ?_)
          · skip
            try simp only [eqv_int, eqv_side, eqv_sideL, Bool.not_eq_true, Bool.not_eq_false, decide_eq_true_eq, decide_eq_false_iff_not, Bool.not_eq_true', Bool.not_eq_false'] at h8
            exact absurd h8 (by decide +kernel)
          · skip
            try simp only [eqv_int, eqv_side, eqv_sideL, Bool.not_eq_true, Bool.not_eq_false, decide_eq_true_eq, decide_eq_false_iff_not, Bool.not_eq_true', Bool.not_eq_false'] at h8
            refine Tl.pss_nil ?_
            refine Tl.pss_cons ?_
            refine Tl.ps_if ?_
            refine Tl.pt_w ?_
            refine Tl.pw_or ?_
            refine Tl.pt_ne hr.units ?_
            refine Tl.pe_call g_fewest_tiles hr (by decide) ?_
            refine Tl.pa_cons ?_
            refine Tl.pe_nm 5 rfl ?_
            refine Tl.pa_cons ?_
            refine Tl.pe_nm 4 rfl ?_
            refine Tl.pa_cons ?_
            refine Tl.pe_i ?_
            refine Tl.pa_nil ?_
            refine s_krs_ok (rs := [(0, 33), (5, 38)]) k10 (show Rows 10 0 [(0, 33), (5, 38)] from ⟨by decide, by decide, fun p hp => by rcases pick2P hp with rfl | rfl <;> exact ⟨by decide, by decide, by decide, by decide, by decide⟩⟩) (by decide) (by decide) ?_
            intro m o hf
            obtain ⟨e1, e2⟩ := few11 hf
            subst e1 e2
            refine Tl.pe_tp ?_
            refine Tl.pa_cons ?_
            refine Tl.pe_i ?_
            refine Tl.pa_cons ?_
            refine Tl.pe_i ?_
            refine Tl.pa_nil ?_
            refine ⟨[_, _], rfl, (by first | decide | (simp; done)), ?_⟩
            refine ⟨(by first | rfl | assumption | exact ints_shaped _ | exact shaped_side _ | decide +kernel), (by first | rfl | assumption | exact ints_shaped _ | exact shaped_side _ | decide +kernel), ?_⟩
            refine iteB (fun h9 => ?_) (fun h9 => ?_)
            · skip
              try simp only [eqv_int, eqv_side, eqv_sideL, Bool.not_eq_true, Bool.not_eq_false, decide_eq_true_eq, decide_eq_false_iff_not, Bool.not_eq_true', Bool.not_eq_false'] at h9
              exact absurd h9 (by decide +kernel)
            · skip
              try simp only [eqv_int, eqv_side, eqv_sideL, Bool.not_eq_true, Bool.not_eq_false, decide_eq_true_eq, decide_eq_false_iff_not, Bool.not_eq_true', Bool.not_eq_false'] at h9
              refine Tl.pw_or1 ?_
              refine Tl.pt_ne hr.units ?_
              refine Tl.pe_call g_cheap_offsets hr (by decide) ?_
              refine Tl.pa_cons ?_
              refine Tl.pe_nm 5 rfl ?_
              refine Tl.pa_cons ?_
              refine Tl.pe_nm 4 rfl ?_
              refine Tl.pa_cons ?_
              refine Tl.pe_i ?_
              refine Tl.pa_cons ?_
              refine Tl.pe_i ?_
              refine Tl.pa_nil ?_
              refine s_krsn_ok (rs := [(0, 33), (5, 38)]) k10 (show Rows 10 0 [(0, 33), (5, 38)] from ⟨by decide, by decide, fun p hp => by rcases pick2P hp with rfl | rfl <;> exact ⟨by decide, by decide, by decide, by decide, by decide⟩⟩) (by decide) (by decide) (by decide) (by decide) ?_
              refine Tl.pe_ls ?_
              refine Tl.pa_nil ?_
              refine ⟨[], rfl, (by first | decide | (simp; done)), ?_⟩
              refine ⟨(by first | rfl | assumption | exact ints_shaped _ | exact shaped_side _ | decide +kernel), (by first | rfl | assumption | exact ints_shaped _ | exact shaped_side _ | decide +kernel), ?_⟩
              refine iteB (fun h10 => ?_) (fun h10 => ?_)
              · skip
                try simp only [eqv_int, eqv_side, eqv_sideL, Bool.not_eq_true, Bool.not_eq_false, decide_eq_true_eq, decide_eq_false_iff_not, Bool.not_eq_true', Bool.not_eq_false'] at h10
                exact absurd h10 (by decide +kernel)
              · skip
                try simp only [eqv_int, eqv_side, eqv_sideL, Bool.not_eq_true, Bool.not_eq_false, decide_eq_true_eq, decide_eq_false_iff_not, Bool.not_eq_true', Bool.not_eq_false'] at h10
                refine Tl.pss_nil ?_
                refine Tl.pss_cons ?_
                refine Tl.ps_if ?_
                refine Tl.pt_ne hr.units ?_
                refine Tl.pe_call g_good_tiles hr (by decide) ?_
                refine Tl.pa_cons ?_
                refine Tl.pe_i ?_
                refine Tl.pa_cons ?_
                refine Tl.pe_nm 6 rfl ?_
                refine Tl.pa_cons ?_
                refine Tl.pe_i ?_
                refine Tl.pa_cons ?_
                refine Tl.pe_i ?_
                refine Tl.pa_cons ?_
                refine Tl.pe_i ?_
                refine Tl.pa_nil ?_
                refine s_good_tiles_ok (ds := [bD 0 true, bD 36 false]) (by decide) (by decide) (two_b (p := 0) (q := 36) (a := true) (c := false) ⟨by decide, by decide⟩ ⟨by decide, by decide⟩) (by decide) (by decide) (by decide) (by decide) ?_
                refine Tl.pe_ls ?_
                refine Tl.pa_cons ?_
                refine Tl.pe_i ?_
                refine Tl.pa_cons ?_
                refine Tl.pe_i ?_
                refine Tl.pa_cons ?_
                refine Tl.pe_i ?_
                refine Tl.pa_cons ?_
                refine Tl.pe_i ?_
                refine Tl.pa_nil ?_
                refine ⟨[_, _, _, _], rfl, (by first | decide | (simp; done)), ?_⟩
                refine ⟨(by first | rfl | assumption | exact ints_shaped _ | exact shaped_side _ | decide +kernel), (by first | rfl | assumption | exact ints_shaped _ | exact shaped_side _ | decide +kernel), ?_⟩
                refine iteB (fun h11 => ?_) (fun h11 => ?_)
                · skip
                  try simp only [eqv_int, eqv_side, eqv_sideL, Bool.not_eq_true, Bool.not_eq_false, decide_eq_true_eq, decide_eq_false_iff_not, Bool.not_eq_true', Bool.not_eq_false'] at h11
                  exact absurd h11 (by decide +kernel)
                · skip
                  try simp only [eqv_int, eqv_side, eqv_sideL, Bool.not_eq_true, Bool.not_eq_false, decide_eq_true_eq, decide_eq_false_iff_not, Bool.not_eq_true', Bool.not_eq_false'] at h11
                  refine Tl.pss_nil ?_
                  refine Tl.pss_cons ?_
                  refine Tl.ps_if ?_
                  refine Tl.pt_ne hr.units ?_
                  refine Tl.pe_call g_free_places hr (by decide) ?_
                  refine Tl.pa_cons ?_
                  refine Tl.pe_nm 5 rfl ?_
                  refine Tl.pa_cons ?_
                  refine Tl.pe_nm 6 rfl ?_
                  refine Tl.pa_cons ?_
                  refine Tl.pe_i ?_
                  refine Tl.pa_cons ?_
                  refine Tl.pe_s ?_
                  refine Tl.pa_nil ?_
                  refine s_free_places_ok (rt := true) (ds := [bD 0 true, bD 36 false]) k10 (two_b (p := 0) (q := 36) (a := true) (c := false) ⟨by decide, by decide⟩ ⟨by decide, by decide⟩) (by decide) (by decide) ?_
                  refine Tl.pe_ls ?_
                  refine Tl.pa_cons ?_
                  refine Tl.pe_i ?_
                  refine Tl.pa_cons ?_
                  refine Tl.pe_i ?_
                  refine Tl.pa_cons ?_
                  refine Tl.pe_i ?_
                  refine Tl.pa_nil ?_
                  refine ⟨[_, _, _], rfl, (by first | decide | (simp; done)), ?_⟩
                  refine ⟨(by first | rfl | assumption | exact ints_shaped _ | exact shaped_side _ | decide +kernel), (by first | rfl | assumption | exact ints_shaped _ | exact shaped_side _ | decide +kernel), ?_⟩
                  refine iteB (fun h12 => ?_) (fun h12 => ?_)
                  · skip
                    try simp only [eqv_int, eqv_side, eqv_sideL, Bool.not_eq_true, Bool.not_eq_false, decide_eq_true_eq, decide_eq_false_iff_not, Bool.not_eq_true', Bool.not_eq_false'] at h12
                    exact absurd h12 (by decide +kernel)
                  · skip
                    try simp only [eqv_int, eqv_side, eqv_sideL, Bool.not_eq_true, Bool.not_eq_false, decide_eq_true_eq, decide_eq_false_iff_not, Bool.not_eq_true', Bool.not_eq_false'] at h12
                    refine Tl.pss_nil ?_
                    refine Tl.pss_cons ?_
                    refine Tl.ps_if ?_
                    refine Tl.pt_w ?_
                    refine Tl.pw_or ?_
                    refine Tl.pt_ne hr.units ?_
                    refine Tl.pe_call g_offsets_for hr (by decide) ?_
                    refine Tl.pa_cons ?_
                    refine Tl.pe_nm 5 rfl ?_
                    refine Tl.pa_cons ?_
                    refine Tl.pe_tp ?_
                    refine Tl.pa_cons ?_
                    refine Tl.pe_tp ?_
                    refine Tl.pa_cons ?_
                    refine Tl.pe_tp ?_
                    refine Tl.pa_cons ?_
                    refine Tl.pe_i ?_
                    refine Tl.pa_cons ?_
                    refine Tl.pe_s ?_
                    refine Tl.pa_nil ?_
                    refine ⟨[_, _], rfl, (by first | decide | (simp; done)), ?_⟩
                    refine Tl.pa_cons ?_
                    refine Tl.pe_i ?_
                    refine Tl.pa_nil ?_
                    refine ⟨[_, _], rfl, (by first | decide | (simp; done)), ?_⟩
                    refine Tl.pa_nil ?_
                    refine ⟨[_], rfl, (by first | decide | (simp; done)), ?_⟩
                    refine Tl.pa_nil ?_
                    refine s_ks_ok k10 (seens_by (by decide +kernel)) ?_
                    refine Tl.pe_ls ?_
                    refine Tl.pa_cons ?_
                    refine Tl.pe_i ?_
                    refine Tl.pa_nil ?_
                    refine ⟨[_], rfl, (by first | decide | (simp; done)), ?_⟩
                    refine ⟨(by first | rfl | assumption | exact ints_shaped _ | exact shaped_side _ | decide +kernel), (by first | rfl | assumption | exact ints_shaped _ | exact shaped_side _ | decide +kernel), ?_⟩
                    refine iteB (fun h13 => ?_) (fun h13 => ?_)
                    · skip
                      try simp only [eqv_int, eqv_side, eqv_sideL, Bool.not_eq_true, Bool.not_eq_false, decide_eq_true_eq, decide_eq_false_iff_not, Bool.not_eq_true', Bool.not_eq_false'] at h13
                      exact absurd h13 (by decide +kernel)
                    · skip
                      try simp only [eqv_int, eqv_side, eqv_sideL, Bool.not_eq_true, Bool.not_eq_false, decide_eq_true_eq, decide_eq_false_iff_not, Bool.not_eq_true', Bool.not_eq_false'] at h13
                      refine Tl.pw_or1 ?_
                      refine Tl.pt_ne hr.units ?_
                      refine Tl.pe_call g_needless_borders hr (by decide) ?_
                      refine Tl.pa_cons ?_
                      refine Tl.pe_nm 5 rfl ?_
                      refine Tl.pa_cons ?_
                      refine Tl.pe_nm 6 rfl ?_
                      refine Tl.pa_cons ?_
                      refine Tl.pe_i ?_
                      refine Tl.pa_nil ?_
                      refine s_kbl_ok (ds := [bD 0 true, bD 36 false]) k10 (two_b (p := 0) (q := 36) (a := true) (c := false) ⟨by decide, by decide⟩ ⟨by decide, by decide⟩) (by decide) (by decide) ?_
                      refine Tl.pe_ls ?_
                      refine Tl.pa_cons ?_
                      refine Tl.pe_i ?_
                      refine Tl.pa_cons ?_
                      refine Tl.pe_i ?_
                      refine Tl.pa_nil ?_
                      refine ⟨[_, _], rfl, (by first | decide | (simp; done)), ?_⟩
                      refine ⟨(by first | rfl | assumption | exact ints_shaped _ | exact shaped_side _ | decide +kernel), (by first | rfl | assumption | exact ints_shaped _ | exact shaped_side _ | decide +kernel), ?_⟩
                      refine iteB (fun h14 => ?_) (fun h14 => ?_)
                      · skip
                        try simp only [eqv_int, eqv_side, eqv_sideL, Bool.not_eq_true, Bool.not_eq_false, decide_eq_true_eq, decide_eq_false_iff_not, Bool.not_eq_true', Bool.not_eq_false'] at h14
                        exact absurd h14 (by decide +kernel)
                      · skip
                        try simp only [eqv_int, eqv_side, eqv_sideL, Bool.not_eq_true, Bool.not_eq_false, decide_eq_true_eq, decide_eq_false_iff_not, Bool.not_eq_true', Bool.not_eq_false'] at h14
                        refine Tl.pss_nil ?_
                        exact pss_shop_of g_shop rfl (hr.mono (by decide))

end
theorem all_mk {l : PySem.W.OpenLaw} {w : World} {K : PySem.W.Frag} {h : Heap} {mg : Str → Option Value} {fa : Addr} {f_is_integer f_is_pair f_is_kind f_is_side f_is_border f_step_of f_row_fits f_need_kind f_need_offset f_need_border f_need_borders f_need_row f_need_rows f_need_number f_width_of f_pieces_of f_row_pieces f_narrowest f_good_of f_widest_of f_widest_least f_best_offsets f_uncut_offsets f_even_offsets f_need_shifts f_narrowest_of f_good_shifted f_widest_shifted f_pairs_of f_needed f_pairs f_tiles_needed f_fewest_tiles f_cheap_offsets f_good_tiles f_free_places f_needless_borders f_is_seen f_need_seen f_offsets_of f_offsets_for f_law_cell_at f_law_draws f_law_bag f_law_bags f_law_take f_law_evens f_law_opposite_right f_law_whole_right f_law : Addr} {cl_InvalidBorder cl_InvalidKind cl_InvalidNumber cl_InvalidOffset cl_InvalidRow cl_InvalidSeen cl_InvalidSide : Addr} (X : K.In h) (G : h.Ns mainGlobals mg) (hfa : mg "law" = some (.ref fa))
    {od_is_integer an_is_integer : Option Addr} {sl_is_integer : Array (Option Value)} {oc_is_integer kV_is_integer dc_is_integer pm_is_integer cd_is_integer ct_is_integer : Value}
    {od_is_pair an_is_pair : Option Addr} {sl_is_pair : Array (Option Value)} {oc_is_pair kV_is_pair dc_is_pair pm_is_pair cd_is_pair ct_is_pair : Value}
    {od_is_kind an_is_kind : Option Addr} {sl_is_kind : Array (Option Value)} {oc_is_kind kV_is_kind dc_is_kind pm_is_kind cd_is_kind ct_is_kind : Value}
    {od_is_side an_is_side : Option Addr} {sl_is_side : Array (Option Value)} {oc_is_side kV_is_side dc_is_side pm_is_side cd_is_side ct_is_side : Value}
    {od_is_border an_is_border : Option Addr} {sl_is_border : Array (Option Value)} {oc_is_border kV_is_border dc_is_border pm_is_border cd_is_border ct_is_border : Value}
    {od_step_of an_step_of : Option Addr} {sl_step_of : Array (Option Value)} {oc_step_of kV_step_of dc_step_of pm_step_of cd_step_of ct_step_of : Value}
    {od_row_fits an_row_fits : Option Addr} {sl_row_fits : Array (Option Value)} {oc_row_fits kV_row_fits dc_row_fits pm_row_fits cd_row_fits ct_row_fits : Value}
    {od_need_kind an_need_kind : Option Addr} {sl_need_kind : Array (Option Value)} {oc_need_kind kV_need_kind dc_need_kind pm_need_kind cd_need_kind ct_need_kind : Value}
    {od_need_offset an_need_offset : Option Addr} {sl_need_offset : Array (Option Value)} {oc_need_offset kV_need_offset dc_need_offset pm_need_offset cd_need_offset ct_need_offset : Value}
    {od_need_border an_need_border : Option Addr} {sl_need_border : Array (Option Value)} {oc_need_border kV_need_border dc_need_border pm_need_border cd_need_border ct_need_border : Value}
    {od_need_borders an_need_borders : Option Addr} {sl_need_borders : Array (Option Value)} {oc_need_borders kV_need_borders dc_need_borders pm_need_borders cd_need_borders ct_need_borders : Value}
    {od_need_row an_need_row : Option Addr} {sl_need_row : Array (Option Value)} {oc_need_row kV_need_row dc_need_row pm_need_row cd_need_row ct_need_row : Value}
    {od_need_rows an_need_rows : Option Addr} {sl_need_rows : Array (Option Value)} {oc_need_rows kV_need_rows dc_need_rows pm_need_rows cd_need_rows ct_need_rows : Value}
    {od_need_number an_need_number : Option Addr} {sl_need_number : Array (Option Value)} {oc_need_number kV_need_number dc_need_number pm_need_number cd_need_number ct_need_number : Value}
    {od_width_of an_width_of : Option Addr} {sl_width_of : Array (Option Value)} {oc_width_of kV_width_of dc_width_of pm_width_of cd_width_of ct_width_of : Value}
    {od_pieces_of an_pieces_of : Option Addr} {sl_pieces_of : Array (Option Value)} {oc_pieces_of kV_pieces_of dc_pieces_of pm_pieces_of cd_pieces_of ct_pieces_of : Value}
    {od_row_pieces an_row_pieces : Option Addr} {sl_row_pieces : Array (Option Value)} {oc_row_pieces kV_row_pieces dc_row_pieces pm_row_pieces cd_row_pieces ct_row_pieces : Value}
    {od_narrowest an_narrowest : Option Addr} {sl_narrowest : Array (Option Value)} {oc_narrowest kV_narrowest dc_narrowest pm_narrowest cd_narrowest ct_narrowest : Value}
    {od_good_of an_good_of : Option Addr} {sl_good_of : Array (Option Value)} {oc_good_of kV_good_of dc_good_of pm_good_of cd_good_of ct_good_of : Value}
    {od_widest_of an_widest_of : Option Addr} {sl_widest_of : Array (Option Value)} {oc_widest_of kV_widest_of dc_widest_of pm_widest_of cd_widest_of ct_widest_of : Value}
    {od_widest_least an_widest_least : Option Addr} {sl_widest_least : Array (Option Value)} {oc_widest_least kV_widest_least dc_widest_least pm_widest_least cd_widest_least ct_widest_least : Value}
    {od_best_offsets an_best_offsets : Option Addr} {sl_best_offsets : Array (Option Value)} {oc_best_offsets kV_best_offsets dc_best_offsets pm_best_offsets cd_best_offsets ct_best_offsets : Value}
    {od_uncut_offsets an_uncut_offsets : Option Addr} {sl_uncut_offsets : Array (Option Value)} {oc_uncut_offsets kV_uncut_offsets dc_uncut_offsets pm_uncut_offsets cd_uncut_offsets ct_uncut_offsets : Value}
    {od_even_offsets an_even_offsets : Option Addr} {sl_even_offsets : Array (Option Value)} {oc_even_offsets kV_even_offsets dc_even_offsets pm_even_offsets cd_even_offsets ct_even_offsets : Value}
    {od_need_shifts an_need_shifts : Option Addr} {sl_need_shifts : Array (Option Value)} {oc_need_shifts kV_need_shifts dc_need_shifts pm_need_shifts cd_need_shifts ct_need_shifts : Value}
    {od_narrowest_of an_narrowest_of : Option Addr} {sl_narrowest_of : Array (Option Value)} {oc_narrowest_of kV_narrowest_of dc_narrowest_of pm_narrowest_of cd_narrowest_of ct_narrowest_of : Value}
    {od_good_shifted an_good_shifted : Option Addr} {sl_good_shifted : Array (Option Value)} {oc_good_shifted kV_good_shifted dc_good_shifted pm_good_shifted cd_good_shifted ct_good_shifted : Value}
    {od_widest_shifted an_widest_shifted : Option Addr} {sl_widest_shifted : Array (Option Value)} {oc_widest_shifted kV_widest_shifted dc_widest_shifted pm_widest_shifted cd_widest_shifted ct_widest_shifted : Value}
    {od_pairs_of an_pairs_of : Option Addr} {sl_pairs_of : Array (Option Value)} {oc_pairs_of kV_pairs_of dc_pairs_of pm_pairs_of cd_pairs_of ct_pairs_of : Value}
    {od_needed an_needed : Option Addr} {sl_needed : Array (Option Value)} {oc_needed kV_needed dc_needed pm_needed cd_needed ct_needed : Value}
    {od_pairs an_pairs : Option Addr} {sl_pairs : Array (Option Value)} {oc_pairs kV_pairs dc_pairs pm_pairs cd_pairs ct_pairs : Value}
    {od_tiles_needed an_tiles_needed : Option Addr} {sl_tiles_needed : Array (Option Value)} {oc_tiles_needed kV_tiles_needed dc_tiles_needed pm_tiles_needed cd_tiles_needed ct_tiles_needed : Value}
    {od_fewest_tiles an_fewest_tiles : Option Addr} {sl_fewest_tiles : Array (Option Value)} {oc_fewest_tiles kV_fewest_tiles dc_fewest_tiles pm_fewest_tiles cd_fewest_tiles ct_fewest_tiles : Value}
    {od_cheap_offsets an_cheap_offsets : Option Addr} {sl_cheap_offsets : Array (Option Value)} {oc_cheap_offsets kV_cheap_offsets dc_cheap_offsets pm_cheap_offsets cd_cheap_offsets ct_cheap_offsets : Value}
    {od_good_tiles an_good_tiles : Option Addr} {sl_good_tiles : Array (Option Value)} {oc_good_tiles kV_good_tiles dc_good_tiles pm_good_tiles cd_good_tiles ct_good_tiles : Value}
    {od_free_places an_free_places : Option Addr} {sl_free_places : Array (Option Value)} {oc_free_places kV_free_places dc_free_places pm_free_places cd_free_places ct_free_places : Value}
    {od_needless_borders an_needless_borders : Option Addr} {sl_needless_borders : Array (Option Value)} {oc_needless_borders kV_needless_borders dc_needless_borders pm_needless_borders cd_needless_borders ct_needless_borders : Value}
    {od_is_seen an_is_seen : Option Addr} {sl_is_seen : Array (Option Value)} {oc_is_seen kV_is_seen dc_is_seen pm_is_seen cd_is_seen ct_is_seen : Value}
    {od_need_seen an_need_seen : Option Addr} {sl_need_seen : Array (Option Value)} {oc_need_seen kV_need_seen dc_need_seen pm_need_seen cd_need_seen ct_need_seen : Value}
    {od_offsets_of an_offsets_of : Option Addr} {sl_offsets_of : Array (Option Value)} {oc_offsets_of kV_offsets_of dc_offsets_of pm_offsets_of cd_offsets_of ct_offsets_of : Value}
    {od_offsets_for an_offsets_for : Option Addr} {sl_offsets_for : Array (Option Value)} {oc_offsets_for kV_offsets_for dc_offsets_for pm_offsets_for cd_offsets_for ct_offsets_for : Value}
    {od_law_cell_at an_law_cell_at : Option Addr} {sl_law_cell_at : Array (Option Value)} {oc_law_cell_at kV_law_cell_at dc_law_cell_at pm_law_cell_at cd_law_cell_at ct_law_cell_at : Value}
    {od_law_draws an_law_draws : Option Addr} {sl_law_draws : Array (Option Value)} {oc_law_draws kV_law_draws dc_law_draws pm_law_draws cd_law_draws ct_law_draws : Value}
    {od_law_bag an_law_bag : Option Addr} {sl_law_bag : Array (Option Value)} {oc_law_bag kV_law_bag dc_law_bag pm_law_bag cd_law_bag ct_law_bag : Value}
    {od_law_bags an_law_bags : Option Addr} {sl_law_bags : Array (Option Value)} {oc_law_bags kV_law_bags dc_law_bags pm_law_bags cd_law_bags ct_law_bags : Value}
    {od_law_take an_law_take : Option Addr} {sl_law_take : Array (Option Value)} {oc_law_take kV_law_take dc_law_take pm_law_take cd_law_take ct_law_take : Value}
    {od_law_evens an_law_evens : Option Addr} {sl_law_evens : Array (Option Value)} {oc_law_evens kV_law_evens dc_law_evens pm_law_evens cd_law_evens ct_law_evens : Value}
    {od_law_opposite_right an_law_opposite_right : Option Addr} {sl_law_opposite_right : Array (Option Value)} {oc_law_opposite_right kV_law_opposite_right dc_law_opposite_right pm_law_opposite_right cd_law_opposite_right ct_law_opposite_right : Value}
    {od_law_whole_right an_law_whole_right : Option Addr} {sl_law_whole_right : Array (Option Value)} {oc_law_whole_right kV_law_whole_right dc_law_whole_right pm_law_whole_right cd_law_whole_right ct_law_whole_right : Value}
    {od_law an_law : Option Addr} {sl_law : Array (Option Value)} {oc_law kV_law dc_law pm_law cd_law ct_law : Value}
    (a_is_integer : PySem.W.nsIn K mainGlobals "is_integer" = some (some (.ref f_is_integer))) (l_is_integer : K.lookup f_is_integer = some ⟨oc_is_integer, od_is_integer, .func (PySem.W.fnOf "is_integer" "is_integer" (defArgs st_is_integer) (defBody st_is_integer) (defScope st_is_integer) .none kV_is_integer dc_is_integer pm_is_integer an_is_integer cd_is_integer ct_is_integer), sl_is_integer⟩) (c_is_integer : PySem.W.codeIn K cd_is_integer "is_integer" = true) (k_is_integer : PySem.W.keepIn K (.ref f_is_integer) = true)
    (a_is_pair : PySem.W.nsIn K mainGlobals "is_pair" = some (some (.ref f_is_pair))) (l_is_pair : K.lookup f_is_pair = some ⟨oc_is_pair, od_is_pair, .func (PySem.W.fnOf "is_pair" "is_pair" (defArgs st_is_pair) (defBody st_is_pair) (defScope st_is_pair) .none kV_is_pair dc_is_pair pm_is_pair an_is_pair cd_is_pair ct_is_pair), sl_is_pair⟩) (c_is_pair : PySem.W.codeIn K cd_is_pair "is_pair" = true) (k_is_pair : PySem.W.keepIn K (.ref f_is_pair) = true)
    (a_is_kind : PySem.W.nsIn K mainGlobals "is_kind" = some (some (.ref f_is_kind))) (l_is_kind : K.lookup f_is_kind = some ⟨oc_is_kind, od_is_kind, .func (PySem.W.fnOf "is_kind" "is_kind" (defArgs st_is_kind) (defBody st_is_kind) (defScope st_is_kind) .none kV_is_kind dc_is_kind pm_is_kind an_is_kind cd_is_kind ct_is_kind), sl_is_kind⟩) (c_is_kind : PySem.W.codeIn K cd_is_kind "is_kind" = true) (k_is_kind : PySem.W.keepIn K (.ref f_is_kind) = true)
    (a_is_side : PySem.W.nsIn K mainGlobals "is_side" = some (some (.ref f_is_side))) (l_is_side : K.lookup f_is_side = some ⟨oc_is_side, od_is_side, .func (PySem.W.fnOf "is_side" "is_side" (defArgs st_is_side) (defBody st_is_side) (defScope st_is_side) .none kV_is_side dc_is_side pm_is_side an_is_side cd_is_side ct_is_side), sl_is_side⟩) (c_is_side : PySem.W.codeIn K cd_is_side "is_side" = true) (k_is_side : PySem.W.keepIn K (.ref f_is_side) = true)
    (a_is_border : PySem.W.nsIn K mainGlobals "is_border" = some (some (.ref f_is_border))) (l_is_border : K.lookup f_is_border = some ⟨oc_is_border, od_is_border, .func (PySem.W.fnOf "is_border" "is_border" (defArgs st_is_border) (defBody st_is_border) (defScope st_is_border) .none kV_is_border dc_is_border pm_is_border an_is_border cd_is_border ct_is_border), sl_is_border⟩) (c_is_border : PySem.W.codeIn K cd_is_border "is_border" = true) (k_is_border : PySem.W.keepIn K (.ref f_is_border) = true)
    (a_step_of : PySem.W.nsIn K mainGlobals "step_of" = some (some (.ref f_step_of))) (l_step_of : K.lookup f_step_of = some ⟨oc_step_of, od_step_of, .func (PySem.W.fnOf "step_of" "step_of" (defArgs st_step_of) (defBody st_step_of) (defScope st_step_of) .none kV_step_of dc_step_of pm_step_of an_step_of cd_step_of ct_step_of), sl_step_of⟩) (c_step_of : PySem.W.codeIn K cd_step_of "step_of" = true) (k_step_of : PySem.W.keepIn K (.ref f_step_of) = true)
    (a_row_fits : PySem.W.nsIn K mainGlobals "row_fits" = some (some (.ref f_row_fits))) (l_row_fits : K.lookup f_row_fits = some ⟨oc_row_fits, od_row_fits, .func (PySem.W.fnOf "row_fits" "row_fits" (defArgs st_row_fits) (defBody st_row_fits) (defScope st_row_fits) .none kV_row_fits dc_row_fits pm_row_fits an_row_fits cd_row_fits ct_row_fits), sl_row_fits⟩) (c_row_fits : PySem.W.codeIn K cd_row_fits "row_fits" = true) (k_row_fits : PySem.W.keepIn K (.ref f_row_fits) = true)
    (a_need_kind : PySem.W.nsIn K mainGlobals "need_kind" = some (some (.ref f_need_kind))) (l_need_kind : K.lookup f_need_kind = some ⟨oc_need_kind, od_need_kind, .func (PySem.W.fnOf "need_kind" "need_kind" (defArgs st_need_kind) (defBody st_need_kind) (defScope st_need_kind) .none kV_need_kind dc_need_kind pm_need_kind an_need_kind cd_need_kind ct_need_kind), sl_need_kind⟩) (c_need_kind : PySem.W.codeIn K cd_need_kind "need_kind" = true) (k_need_kind : PySem.W.keepIn K (.ref f_need_kind) = true)
    (a_need_offset : PySem.W.nsIn K mainGlobals "need_offset" = some (some (.ref f_need_offset))) (l_need_offset : K.lookup f_need_offset = some ⟨oc_need_offset, od_need_offset, .func (PySem.W.fnOf "need_offset" "need_offset" (defArgs st_need_offset) (defBody st_need_offset) (defScope st_need_offset) .none kV_need_offset dc_need_offset pm_need_offset an_need_offset cd_need_offset ct_need_offset), sl_need_offset⟩) (c_need_offset : PySem.W.codeIn K cd_need_offset "need_offset" = true) (k_need_offset : PySem.W.keepIn K (.ref f_need_offset) = true)
    (a_need_border : PySem.W.nsIn K mainGlobals "need_border" = some (some (.ref f_need_border))) (l_need_border : K.lookup f_need_border = some ⟨oc_need_border, od_need_border, .func (PySem.W.fnOf "need_border" "need_border" (defArgs st_need_border) (defBody st_need_border) (defScope st_need_border) .none kV_need_border dc_need_border pm_need_border an_need_border cd_need_border ct_need_border), sl_need_border⟩) (c_need_border : PySem.W.codeIn K cd_need_border "need_border" = true) (k_need_border : PySem.W.keepIn K (.ref f_need_border) = true)
    (a_need_borders : PySem.W.nsIn K mainGlobals "need_borders" = some (some (.ref f_need_borders))) (l_need_borders : K.lookup f_need_borders = some ⟨oc_need_borders, od_need_borders, .func (PySem.W.fnOf "need_borders" "need_borders" (defArgs st_need_borders) (defBody st_need_borders) (defScope st_need_borders) .none kV_need_borders dc_need_borders pm_need_borders an_need_borders cd_need_borders ct_need_borders), sl_need_borders⟩) (c_need_borders : PySem.W.codeIn K cd_need_borders "need_borders" = true) (k_need_borders : PySem.W.keepIn K (.ref f_need_borders) = true)
    (a_need_row : PySem.W.nsIn K mainGlobals "need_row" = some (some (.ref f_need_row))) (l_need_row : K.lookup f_need_row = some ⟨oc_need_row, od_need_row, .func (PySem.W.fnOf "need_row" "need_row" (defArgs st_need_row) (defBody st_need_row) (defScope st_need_row) .none kV_need_row dc_need_row pm_need_row an_need_row cd_need_row ct_need_row), sl_need_row⟩) (c_need_row : PySem.W.codeIn K cd_need_row "need_row" = true) (k_need_row : PySem.W.keepIn K (.ref f_need_row) = true)
    (a_need_rows : PySem.W.nsIn K mainGlobals "need_rows" = some (some (.ref f_need_rows))) (l_need_rows : K.lookup f_need_rows = some ⟨oc_need_rows, od_need_rows, .func (PySem.W.fnOf "need_rows" "need_rows" (defArgs st_need_rows) (defBody st_need_rows) (defScope st_need_rows) .none kV_need_rows dc_need_rows pm_need_rows an_need_rows cd_need_rows ct_need_rows), sl_need_rows⟩) (c_need_rows : PySem.W.codeIn K cd_need_rows "need_rows" = true) (k_need_rows : PySem.W.keepIn K (.ref f_need_rows) = true)
    (a_need_number : PySem.W.nsIn K mainGlobals "need_number" = some (some (.ref f_need_number))) (l_need_number : K.lookup f_need_number = some ⟨oc_need_number, od_need_number, .func (PySem.W.fnOf "need_number" "need_number" (defArgs st_need_number) (defBody st_need_number) (defScope st_need_number) .none kV_need_number dc_need_number pm_need_number an_need_number cd_need_number ct_need_number), sl_need_number⟩) (c_need_number : PySem.W.codeIn K cd_need_number "need_number" = true) (k_need_number : PySem.W.keepIn K (.ref f_need_number) = true)
    (a_width_of : PySem.W.nsIn K mainGlobals "width_of" = some (some (.ref f_width_of))) (l_width_of : K.lookup f_width_of = some ⟨oc_width_of, od_width_of, .func (PySem.W.fnOf "width_of" "width_of" (defArgs st_width_of) (defBody st_width_of) (defScope st_width_of) .none kV_width_of dc_width_of pm_width_of an_width_of cd_width_of ct_width_of), sl_width_of⟩) (c_width_of : PySem.W.codeIn K cd_width_of "width_of" = true) (k_width_of : PySem.W.keepIn K (.ref f_width_of) = true)
    (a_pieces_of : PySem.W.nsIn K mainGlobals "pieces_of" = some (some (.ref f_pieces_of))) (l_pieces_of : K.lookup f_pieces_of = some ⟨oc_pieces_of, od_pieces_of, .func (PySem.W.fnOf "pieces_of" "pieces_of" (defArgs st_pieces_of) (defBody st_pieces_of) (defScope st_pieces_of) .none kV_pieces_of dc_pieces_of pm_pieces_of an_pieces_of cd_pieces_of ct_pieces_of), sl_pieces_of⟩) (c_pieces_of : PySem.W.codeIn K cd_pieces_of "pieces_of" = true) (k_pieces_of : PySem.W.keepIn K (.ref f_pieces_of) = true)
    (a_row_pieces : PySem.W.nsIn K mainGlobals "row_pieces" = some (some (.ref f_row_pieces))) (l_row_pieces : K.lookup f_row_pieces = some ⟨oc_row_pieces, od_row_pieces, .func (PySem.W.fnOf "row_pieces" "row_pieces" (defArgs st_row_pieces) (defBody st_row_pieces) (defScope st_row_pieces) .none kV_row_pieces dc_row_pieces pm_row_pieces an_row_pieces cd_row_pieces ct_row_pieces), sl_row_pieces⟩) (c_row_pieces : PySem.W.codeIn K cd_row_pieces "row_pieces" = true) (k_row_pieces : PySem.W.keepIn K (.ref f_row_pieces) = true)
    (a_narrowest : PySem.W.nsIn K mainGlobals "narrowest" = some (some (.ref f_narrowest))) (l_narrowest : K.lookup f_narrowest = some ⟨oc_narrowest, od_narrowest, .func (PySem.W.fnOf "narrowest" "narrowest" (defArgs st_narrowest) (defBody st_narrowest) (defScope st_narrowest) .none kV_narrowest dc_narrowest pm_narrowest an_narrowest cd_narrowest ct_narrowest), sl_narrowest⟩) (c_narrowest : PySem.W.codeIn K cd_narrowest "narrowest" = true) (k_narrowest : PySem.W.keepIn K (.ref f_narrowest) = true)
    (a_good_of : PySem.W.nsIn K mainGlobals "good_of" = some (some (.ref f_good_of))) (l_good_of : K.lookup f_good_of = some ⟨oc_good_of, od_good_of, .func (PySem.W.fnOf "good_of" "good_of" (defArgs st_good_of) (defBody st_good_of) (defScope st_good_of) .none kV_good_of dc_good_of pm_good_of an_good_of cd_good_of ct_good_of), sl_good_of⟩) (c_good_of : PySem.W.codeIn K cd_good_of "good_of" = true) (k_good_of : PySem.W.keepIn K (.ref f_good_of) = true)
    (a_widest_of : PySem.W.nsIn K mainGlobals "widest_of" = some (some (.ref f_widest_of))) (l_widest_of : K.lookup f_widest_of = some ⟨oc_widest_of, od_widest_of, .func (PySem.W.fnOf "widest_of" "widest_of" (defArgs st_widest_of) (defBody st_widest_of) (defScope st_widest_of) .none kV_widest_of dc_widest_of pm_widest_of an_widest_of cd_widest_of ct_widest_of), sl_widest_of⟩) (c_widest_of : PySem.W.codeIn K cd_widest_of "widest_of" = true) (k_widest_of : PySem.W.keepIn K (.ref f_widest_of) = true)
    (a_widest_least : PySem.W.nsIn K mainGlobals "widest_least" = some (some (.ref f_widest_least))) (l_widest_least : K.lookup f_widest_least = some ⟨oc_widest_least, od_widest_least, .func (PySem.W.fnOf "widest_least" "widest_least" (defArgs st_widest_least) (defBody st_widest_least) (defScope st_widest_least) .none kV_widest_least dc_widest_least pm_widest_least an_widest_least cd_widest_least ct_widest_least), sl_widest_least⟩) (c_widest_least : PySem.W.codeIn K cd_widest_least "widest_least" = true) (k_widest_least : PySem.W.keepIn K (.ref f_widest_least) = true)
    (a_best_offsets : PySem.W.nsIn K mainGlobals "best_offsets" = some (some (.ref f_best_offsets))) (l_best_offsets : K.lookup f_best_offsets = some ⟨oc_best_offsets, od_best_offsets, .func (PySem.W.fnOf "best_offsets" "best_offsets" (defArgs st_best_offsets) (defBody st_best_offsets) (defScope st_best_offsets) .none kV_best_offsets dc_best_offsets pm_best_offsets an_best_offsets cd_best_offsets ct_best_offsets), sl_best_offsets⟩) (c_best_offsets : PySem.W.codeIn K cd_best_offsets "best_offsets" = true) (k_best_offsets : PySem.W.keepIn K (.ref f_best_offsets) = true)
    (a_uncut_offsets : PySem.W.nsIn K mainGlobals "uncut_offsets" = some (some (.ref f_uncut_offsets))) (l_uncut_offsets : K.lookup f_uncut_offsets = some ⟨oc_uncut_offsets, od_uncut_offsets, .func (PySem.W.fnOf "uncut_offsets" "uncut_offsets" (defArgs st_uncut_offsets) (defBody st_uncut_offsets) (defScope st_uncut_offsets) .none kV_uncut_offsets dc_uncut_offsets pm_uncut_offsets an_uncut_offsets cd_uncut_offsets ct_uncut_offsets), sl_uncut_offsets⟩) (c_uncut_offsets : PySem.W.codeIn K cd_uncut_offsets "uncut_offsets" = true) (k_uncut_offsets : PySem.W.keepIn K (.ref f_uncut_offsets) = true)
    (a_even_offsets : PySem.W.nsIn K mainGlobals "even_offsets" = some (some (.ref f_even_offsets))) (l_even_offsets : K.lookup f_even_offsets = some ⟨oc_even_offsets, od_even_offsets, .func (PySem.W.fnOf "even_offsets" "even_offsets" (defArgs st_even_offsets) (defBody st_even_offsets) (defScope st_even_offsets) .none kV_even_offsets dc_even_offsets pm_even_offsets an_even_offsets cd_even_offsets ct_even_offsets), sl_even_offsets⟩) (c_even_offsets : PySem.W.codeIn K cd_even_offsets "even_offsets" = true) (k_even_offsets : PySem.W.keepIn K (.ref f_even_offsets) = true)
    (a_need_shifts : PySem.W.nsIn K mainGlobals "need_shifts" = some (some (.ref f_need_shifts))) (l_need_shifts : K.lookup f_need_shifts = some ⟨oc_need_shifts, od_need_shifts, .func (PySem.W.fnOf "need_shifts" "need_shifts" (defArgs st_need_shifts) (defBody st_need_shifts) (defScope st_need_shifts) .none kV_need_shifts dc_need_shifts pm_need_shifts an_need_shifts cd_need_shifts ct_need_shifts), sl_need_shifts⟩) (c_need_shifts : PySem.W.codeIn K cd_need_shifts "need_shifts" = true) (k_need_shifts : PySem.W.keepIn K (.ref f_need_shifts) = true)
    (a_narrowest_of : PySem.W.nsIn K mainGlobals "narrowest_of" = some (some (.ref f_narrowest_of))) (l_narrowest_of : K.lookup f_narrowest_of = some ⟨oc_narrowest_of, od_narrowest_of, .func (PySem.W.fnOf "narrowest_of" "narrowest_of" (defArgs st_narrowest_of) (defBody st_narrowest_of) (defScope st_narrowest_of) .none kV_narrowest_of dc_narrowest_of pm_narrowest_of an_narrowest_of cd_narrowest_of ct_narrowest_of), sl_narrowest_of⟩) (c_narrowest_of : PySem.W.codeIn K cd_narrowest_of "narrowest_of" = true) (k_narrowest_of : PySem.W.keepIn K (.ref f_narrowest_of) = true)
    (a_good_shifted : PySem.W.nsIn K mainGlobals "good_shifted" = some (some (.ref f_good_shifted))) (l_good_shifted : K.lookup f_good_shifted = some ⟨oc_good_shifted, od_good_shifted, .func (PySem.W.fnOf "good_shifted" "good_shifted" (defArgs st_good_shifted) (defBody st_good_shifted) (defScope st_good_shifted) .none kV_good_shifted dc_good_shifted pm_good_shifted an_good_shifted cd_good_shifted ct_good_shifted), sl_good_shifted⟩) (c_good_shifted : PySem.W.codeIn K cd_good_shifted "good_shifted" = true) (k_good_shifted : PySem.W.keepIn K (.ref f_good_shifted) = true)
    (a_widest_shifted : PySem.W.nsIn K mainGlobals "widest_shifted" = some (some (.ref f_widest_shifted))) (l_widest_shifted : K.lookup f_widest_shifted = some ⟨oc_widest_shifted, od_widest_shifted, .func (PySem.W.fnOf "widest_shifted" "widest_shifted" (defArgs st_widest_shifted) (defBody st_widest_shifted) (defScope st_widest_shifted) .none kV_widest_shifted dc_widest_shifted pm_widest_shifted an_widest_shifted cd_widest_shifted ct_widest_shifted), sl_widest_shifted⟩) (c_widest_shifted : PySem.W.codeIn K cd_widest_shifted "widest_shifted" = true) (k_widest_shifted : PySem.W.keepIn K (.ref f_widest_shifted) = true)
    (a_pairs_of : PySem.W.nsIn K mainGlobals "pairs_of" = some (some (.ref f_pairs_of))) (l_pairs_of : K.lookup f_pairs_of = some ⟨oc_pairs_of, od_pairs_of, .func (PySem.W.fnOf "pairs_of" "pairs_of" (defArgs st_pairs_of) (defBody st_pairs_of) (defScope st_pairs_of) .none kV_pairs_of dc_pairs_of pm_pairs_of an_pairs_of cd_pairs_of ct_pairs_of), sl_pairs_of⟩) (c_pairs_of : PySem.W.codeIn K cd_pairs_of "pairs_of" = true) (k_pairs_of : PySem.W.keepIn K (.ref f_pairs_of) = true)
    (a_needed : PySem.W.nsIn K mainGlobals "needed" = some (some (.ref f_needed))) (l_needed : K.lookup f_needed = some ⟨oc_needed, od_needed, .func (PySem.W.fnOf "needed" "needed" (defArgs st_needed) (defBody st_needed) (defScope st_needed) .none kV_needed dc_needed pm_needed an_needed cd_needed ct_needed), sl_needed⟩) (c_needed : PySem.W.codeIn K cd_needed "needed" = true) (k_needed : PySem.W.keepIn K (.ref f_needed) = true)
    (a_pairs : PySem.W.nsIn K mainGlobals "pairs" = some (some (.ref f_pairs))) (l_pairs : K.lookup f_pairs = some ⟨oc_pairs, od_pairs, .func (PySem.W.fnOf "pairs" "pairs" (defArgs st_pairs) (defBody st_pairs) (defScope st_pairs) .none kV_pairs dc_pairs pm_pairs an_pairs cd_pairs ct_pairs), sl_pairs⟩) (c_pairs : PySem.W.codeIn K cd_pairs "pairs" = true) (k_pairs : PySem.W.keepIn K (.ref f_pairs) = true)
    (a_tiles_needed : PySem.W.nsIn K mainGlobals "tiles_needed" = some (some (.ref f_tiles_needed))) (l_tiles_needed : K.lookup f_tiles_needed = some ⟨oc_tiles_needed, od_tiles_needed, .func (PySem.W.fnOf "tiles_needed" "tiles_needed" (defArgs st_tiles_needed) (defBody st_tiles_needed) (defScope st_tiles_needed) .none kV_tiles_needed dc_tiles_needed pm_tiles_needed an_tiles_needed cd_tiles_needed ct_tiles_needed), sl_tiles_needed⟩) (c_tiles_needed : PySem.W.codeIn K cd_tiles_needed "tiles_needed" = true) (k_tiles_needed : PySem.W.keepIn K (.ref f_tiles_needed) = true)
    (a_fewest_tiles : PySem.W.nsIn K mainGlobals "fewest_tiles" = some (some (.ref f_fewest_tiles))) (l_fewest_tiles : K.lookup f_fewest_tiles = some ⟨oc_fewest_tiles, od_fewest_tiles, .func (PySem.W.fnOf "fewest_tiles" "fewest_tiles" (defArgs st_fewest_tiles) (defBody st_fewest_tiles) (defScope st_fewest_tiles) .none kV_fewest_tiles dc_fewest_tiles pm_fewest_tiles an_fewest_tiles cd_fewest_tiles ct_fewest_tiles), sl_fewest_tiles⟩) (c_fewest_tiles : PySem.W.codeIn K cd_fewest_tiles "fewest_tiles" = true) (k_fewest_tiles : PySem.W.keepIn K (.ref f_fewest_tiles) = true)
    (a_cheap_offsets : PySem.W.nsIn K mainGlobals "cheap_offsets" = some (some (.ref f_cheap_offsets))) (l_cheap_offsets : K.lookup f_cheap_offsets = some ⟨oc_cheap_offsets, od_cheap_offsets, .func (PySem.W.fnOf "cheap_offsets" "cheap_offsets" (defArgs st_cheap_offsets) (defBody st_cheap_offsets) (defScope st_cheap_offsets) .none kV_cheap_offsets dc_cheap_offsets pm_cheap_offsets an_cheap_offsets cd_cheap_offsets ct_cheap_offsets), sl_cheap_offsets⟩) (c_cheap_offsets : PySem.W.codeIn K cd_cheap_offsets "cheap_offsets" = true) (k_cheap_offsets : PySem.W.keepIn K (.ref f_cheap_offsets) = true)
    (a_good_tiles : PySem.W.nsIn K mainGlobals "good_tiles" = some (some (.ref f_good_tiles))) (l_good_tiles : K.lookup f_good_tiles = some ⟨oc_good_tiles, od_good_tiles, .func (PySem.W.fnOf "good_tiles" "good_tiles" (defArgs st_good_tiles) (defBody st_good_tiles) (defScope st_good_tiles) .none kV_good_tiles dc_good_tiles pm_good_tiles an_good_tiles cd_good_tiles ct_good_tiles), sl_good_tiles⟩) (c_good_tiles : PySem.W.codeIn K cd_good_tiles "good_tiles" = true) (k_good_tiles : PySem.W.keepIn K (.ref f_good_tiles) = true)
    (a_free_places : PySem.W.nsIn K mainGlobals "free_places" = some (some (.ref f_free_places))) (l_free_places : K.lookup f_free_places = some ⟨oc_free_places, od_free_places, .func (PySem.W.fnOf "free_places" "free_places" (defArgs st_free_places) (defBody st_free_places) (defScope st_free_places) .none kV_free_places dc_free_places pm_free_places an_free_places cd_free_places ct_free_places), sl_free_places⟩) (c_free_places : PySem.W.codeIn K cd_free_places "free_places" = true) (k_free_places : PySem.W.keepIn K (.ref f_free_places) = true)
    (a_needless_borders : PySem.W.nsIn K mainGlobals "needless_borders" = some (some (.ref f_needless_borders))) (l_needless_borders : K.lookup f_needless_borders = some ⟨oc_needless_borders, od_needless_borders, .func (PySem.W.fnOf "needless_borders" "needless_borders" (defArgs st_needless_borders) (defBody st_needless_borders) (defScope st_needless_borders) .none kV_needless_borders dc_needless_borders pm_needless_borders an_needless_borders cd_needless_borders ct_needless_borders), sl_needless_borders⟩) (c_needless_borders : PySem.W.codeIn K cd_needless_borders "needless_borders" = true) (k_needless_borders : PySem.W.keepIn K (.ref f_needless_borders) = true)
    (a_is_seen : PySem.W.nsIn K mainGlobals "is_seen" = some (some (.ref f_is_seen))) (l_is_seen : K.lookup f_is_seen = some ⟨oc_is_seen, od_is_seen, .func (PySem.W.fnOf "is_seen" "is_seen" (defArgs st_is_seen) (defBody st_is_seen) (defScope st_is_seen) .none kV_is_seen dc_is_seen pm_is_seen an_is_seen cd_is_seen ct_is_seen), sl_is_seen⟩) (c_is_seen : PySem.W.codeIn K cd_is_seen "is_seen" = true) (k_is_seen : PySem.W.keepIn K (.ref f_is_seen) = true)
    (a_need_seen : PySem.W.nsIn K mainGlobals "need_seen" = some (some (.ref f_need_seen))) (l_need_seen : K.lookup f_need_seen = some ⟨oc_need_seen, od_need_seen, .func (PySem.W.fnOf "need_seen" "need_seen" (defArgs st_need_seen) (defBody st_need_seen) (defScope st_need_seen) .none kV_need_seen dc_need_seen pm_need_seen an_need_seen cd_need_seen ct_need_seen), sl_need_seen⟩) (c_need_seen : PySem.W.codeIn K cd_need_seen "need_seen" = true) (k_need_seen : PySem.W.keepIn K (.ref f_need_seen) = true)
    (a_offsets_of : PySem.W.nsIn K mainGlobals "offsets_of" = some (some (.ref f_offsets_of))) (l_offsets_of : K.lookup f_offsets_of = some ⟨oc_offsets_of, od_offsets_of, .func (PySem.W.fnOf "offsets_of" "offsets_of" (defArgs st_offsets_of) (defBody st_offsets_of) (defScope st_offsets_of) .none kV_offsets_of dc_offsets_of pm_offsets_of an_offsets_of cd_offsets_of ct_offsets_of), sl_offsets_of⟩) (c_offsets_of : PySem.W.codeIn K cd_offsets_of "offsets_of" = true) (k_offsets_of : PySem.W.keepIn K (.ref f_offsets_of) = true)
    (a_offsets_for : PySem.W.nsIn K mainGlobals "offsets_for" = some (some (.ref f_offsets_for))) (l_offsets_for : K.lookup f_offsets_for = some ⟨oc_offsets_for, od_offsets_for, .func (PySem.W.fnOf "offsets_for" "offsets_for" (defArgs st_offsets_for) (defBody st_offsets_for) (defScope st_offsets_for) .none kV_offsets_for dc_offsets_for pm_offsets_for an_offsets_for cd_offsets_for ct_offsets_for), sl_offsets_for⟩) (c_offsets_for : PySem.W.codeIn K cd_offsets_for "offsets_for" = true) (k_offsets_for : PySem.W.keepIn K (.ref f_offsets_for) = true)
    (a_law_cell_at : PySem.W.nsIn K mainGlobals "_law_cell_at" = some (some (.ref f_law_cell_at))) (l_law_cell_at : K.lookup f_law_cell_at = some ⟨oc_law_cell_at, od_law_cell_at, .func (PySem.W.fnOf "_law_cell_at" "_law_cell_at" (defArgs st_law_cell_at) (defBody st_law_cell_at) (defScope st_law_cell_at) .none kV_law_cell_at dc_law_cell_at pm_law_cell_at an_law_cell_at cd_law_cell_at ct_law_cell_at), sl_law_cell_at⟩) (c_law_cell_at : PySem.W.codeIn K cd_law_cell_at "_law_cell_at" = true) (k_law_cell_at : PySem.W.keepIn K (.ref f_law_cell_at) = true)
    (a_law_draws : PySem.W.nsIn K mainGlobals "_law_draws" = some (some (.ref f_law_draws))) (l_law_draws : K.lookup f_law_draws = some ⟨oc_law_draws, od_law_draws, .func (PySem.W.fnOf "_law_draws" "_law_draws" (defArgs st_law_draws) (defBody st_law_draws) (defScope st_law_draws) .none kV_law_draws dc_law_draws pm_law_draws an_law_draws cd_law_draws ct_law_draws), sl_law_draws⟩) (c_law_draws : PySem.W.codeIn K cd_law_draws "_law_draws" = true) (k_law_draws : PySem.W.keepIn K (.ref f_law_draws) = true)
    (a_law_bag : PySem.W.nsIn K mainGlobals "_law_bag" = some (some (.ref f_law_bag))) (l_law_bag : K.lookup f_law_bag = some ⟨oc_law_bag, od_law_bag, .func (PySem.W.fnOf "_law_bag" "_law_bag" (defArgs st_law_bag) (defBody st_law_bag) (defScope st_law_bag) .none kV_law_bag dc_law_bag pm_law_bag an_law_bag cd_law_bag ct_law_bag), sl_law_bag⟩) (c_law_bag : PySem.W.codeIn K cd_law_bag "_law_bag" = true) (k_law_bag : PySem.W.keepIn K (.ref f_law_bag) = true)
    (a_law_bags : PySem.W.nsIn K mainGlobals "_law_bags" = some (some (.ref f_law_bags))) (l_law_bags : K.lookup f_law_bags = some ⟨oc_law_bags, od_law_bags, .func (PySem.W.fnOf "_law_bags" "_law_bags" (defArgs st_law_bags) (defBody st_law_bags) (defScope st_law_bags) .none kV_law_bags dc_law_bags pm_law_bags an_law_bags cd_law_bags ct_law_bags), sl_law_bags⟩) (c_law_bags : PySem.W.codeIn K cd_law_bags "_law_bags" = true) (k_law_bags : PySem.W.keepIn K (.ref f_law_bags) = true)
    (a_law_take : PySem.W.nsIn K mainGlobals "_law_take" = some (some (.ref f_law_take))) (l_law_take : K.lookup f_law_take = some ⟨oc_law_take, od_law_take, .func (PySem.W.fnOf "_law_take" "_law_take" (defArgs st_law_take) (defBody st_law_take) (defScope st_law_take) .none kV_law_take dc_law_take pm_law_take an_law_take cd_law_take ct_law_take), sl_law_take⟩) (c_law_take : PySem.W.codeIn K cd_law_take "_law_take" = true) (k_law_take : PySem.W.keepIn K (.ref f_law_take) = true)
    (a_law_evens : PySem.W.nsIn K mainGlobals "_law_evens" = some (some (.ref f_law_evens))) (l_law_evens : K.lookup f_law_evens = some ⟨oc_law_evens, od_law_evens, .func (PySem.W.fnOf "_law_evens" "_law_evens" (defArgs st_law_evens) (defBody st_law_evens) (defScope st_law_evens) .none kV_law_evens dc_law_evens pm_law_evens an_law_evens cd_law_evens ct_law_evens), sl_law_evens⟩) (c_law_evens : PySem.W.codeIn K cd_law_evens "_law_evens" = true) (k_law_evens : PySem.W.keepIn K (.ref f_law_evens) = true)
    (a_law_opposite_right : PySem.W.nsIn K mainGlobals "_law_opposite_right" = some (some (.ref f_law_opposite_right))) (l_law_opposite_right : K.lookup f_law_opposite_right = some ⟨oc_law_opposite_right, od_law_opposite_right, .func (PySem.W.fnOf "_law_opposite_right" "_law_opposite_right" (defArgs st_law_opposite_right) (defBody st_law_opposite_right) (defScope st_law_opposite_right) .none kV_law_opposite_right dc_law_opposite_right pm_law_opposite_right an_law_opposite_right cd_law_opposite_right ct_law_opposite_right), sl_law_opposite_right⟩) (c_law_opposite_right : PySem.W.codeIn K cd_law_opposite_right "_law_opposite_right" = true) (k_law_opposite_right : PySem.W.keepIn K (.ref f_law_opposite_right) = true)
    (a_law_whole_right : PySem.W.nsIn K mainGlobals "_law_whole_right" = some (some (.ref f_law_whole_right))) (l_law_whole_right : K.lookup f_law_whole_right = some ⟨oc_law_whole_right, od_law_whole_right, .func (PySem.W.fnOf "_law_whole_right" "_law_whole_right" (defArgs st_law_whole_right) (defBody st_law_whole_right) (defScope st_law_whole_right) .none kV_law_whole_right dc_law_whole_right pm_law_whole_right an_law_whole_right cd_law_whole_right ct_law_whole_right), sl_law_whole_right⟩) (c_law_whole_right : PySem.W.codeIn K cd_law_whole_right "_law_whole_right" = true) (k_law_whole_right : PySem.W.keepIn K (.ref f_law_whole_right) = true)
    (a_law : PySem.W.nsIn K mainGlobals "law" = some (some (.ref f_law))) (l_law : K.lookup f_law = some ⟨oc_law, od_law, .func (PySem.W.fnOf "law" "law" (defArgs st_law) (defBody st_law) (defScope st_law) .none kV_law dc_law pm_law an_law cd_law ct_law), sl_law⟩) (c_law : PySem.W.codeIn K cd_law "law" = true) (k_law : PySem.W.keepIn K (.ref f_law) = true)
    {t_MAX_JOINT : _} (q_MAX_JOINT : PySem.W.nsIn K mainGlobals "MAX_JOINT" = some (some (.int 20 t_MAX_JOINT)))
    {t_MAX_TILE : _} (q_MAX_TILE : PySem.W.nsIn K mainGlobals "MAX_TILE" = some (some (.int 500 t_MAX_TILE)))
    (e0_InvalidBorder : PySem.W.nsIn K mainGlobals "InvalidBorder" = some (some (.ref cl_InvalidBorder)))
    (e0_InvalidKind : PySem.W.nsIn K mainGlobals "InvalidKind" = some (some (.ref cl_InvalidKind)))
    (e0_InvalidNumber : PySem.W.nsIn K mainGlobals "InvalidNumber" = some (some (.ref cl_InvalidNumber)))
    (e0_InvalidOffset : PySem.W.nsIn K mainGlobals "InvalidOffset" = some (some (.ref cl_InvalidOffset)))
    (e0_InvalidRow : PySem.W.nsIn K mainGlobals "InvalidRow" = some (some (.ref cl_InvalidRow)))
    (e0_InvalidSeen : PySem.W.nsIn K mainGlobals "InvalidSeen" = some (some (.ref cl_InvalidSeen)))
    (e0_InvalidSide : PySem.W.nsIn K mainGlobals "InvalidSide" = some (some (.ref cl_InvalidSide)))
    (e1_InvalidBorder : PySem.W.excIn K cl_InvalidBorder [.type "ValueError", .type "Exception", .type "BaseException", .type "object"] "ValueError.__new__" = true) (e2_InvalidBorder : PySem.W.keepIn K (.ref cl_InvalidBorder) = true) (e3_InvalidBorder : PySem.W.subIn K (.ref cl_InvalidBorder) (.type "BaseException") = some true) (e4_InvalidBorder : PySem.W.typeIn K (.ref cl_InvalidBorder) = some (.type "type"))
    (e1_InvalidKind : PySem.W.excIn K cl_InvalidKind [.type "ValueError", .type "Exception", .type "BaseException", .type "object"] "ValueError.__new__" = true) (e2_InvalidKind : PySem.W.keepIn K (.ref cl_InvalidKind) = true) (e3_InvalidKind : PySem.W.subIn K (.ref cl_InvalidKind) (.type "BaseException") = some true) (e4_InvalidKind : PySem.W.typeIn K (.ref cl_InvalidKind) = some (.type "type"))
    (e1_InvalidNumber : PySem.W.excIn K cl_InvalidNumber [.type "ValueError", .type "Exception", .type "BaseException", .type "object"] "ValueError.__new__" = true) (e2_InvalidNumber : PySem.W.keepIn K (.ref cl_InvalidNumber) = true) (e3_InvalidNumber : PySem.W.subIn K (.ref cl_InvalidNumber) (.type "BaseException") = some true) (e4_InvalidNumber : PySem.W.typeIn K (.ref cl_InvalidNumber) = some (.type "type"))
    (e1_InvalidOffset : PySem.W.excIn K cl_InvalidOffset [.type "ValueError", .type "Exception", .type "BaseException", .type "object"] "ValueError.__new__" = true) (e2_InvalidOffset : PySem.W.keepIn K (.ref cl_InvalidOffset) = true) (e3_InvalidOffset : PySem.W.subIn K (.ref cl_InvalidOffset) (.type "BaseException") = some true) (e4_InvalidOffset : PySem.W.typeIn K (.ref cl_InvalidOffset) = some (.type "type"))
    (e1_InvalidRow : PySem.W.excIn K cl_InvalidRow [.type "ValueError", .type "Exception", .type "BaseException", .type "object"] "ValueError.__new__" = true) (e2_InvalidRow : PySem.W.keepIn K (.ref cl_InvalidRow) = true) (e3_InvalidRow : PySem.W.subIn K (.ref cl_InvalidRow) (.type "BaseException") = some true) (e4_InvalidRow : PySem.W.typeIn K (.ref cl_InvalidRow) = some (.type "type"))
    (e1_InvalidSeen : PySem.W.excIn K cl_InvalidSeen [.type "ValueError", .type "Exception", .type "BaseException", .type "object"] "ValueError.__new__" = true) (e2_InvalidSeen : PySem.W.keepIn K (.ref cl_InvalidSeen) = true) (e3_InvalidSeen : PySem.W.subIn K (.ref cl_InvalidSeen) (.type "BaseException") = some true) (e4_InvalidSeen : PySem.W.typeIn K (.ref cl_InvalidSeen) = some (.type "type"))
    (e1_InvalidSide : PySem.W.excIn K cl_InvalidSide [.type "ValueError", .type "Exception", .type "BaseException", .type "object"] "ValueError.__new__" = true) (e2_InvalidSide : PySem.W.keepIn K (.ref cl_InvalidSide) = true) (e3_InvalidSide : PySem.W.subIn K (.ref cl_InvalidSide) (.type "BaseException") = some true) (e4_InvalidSide : PySem.W.typeIn K (.ref cl_InvalidSide) = some (.type "type"))
    (z_all : PySem.W.nsIn K mainGlobals "all" = some none)
    (z_bool : PySem.W.nsIn K mainGlobals "bool" = some none)
    (z_enumerate : PySem.W.nsIn K mainGlobals "enumerate" = some none)
    (z_int : PySem.W.nsIn K mainGlobals "int" = some none)
    (z_isinstance : PySem.W.nsIn K mainGlobals "isinstance" = some none)
    (z_len : PySem.W.nsIn K mainGlobals "len" = some none)
    (z_max : PySem.W.nsIn K mainGlobals "max" = some none)
    (z_min : PySem.W.nsIn K mainGlobals "min" = some none)
    (z_range : PySem.W.nsIn K mainGlobals "range" = some none)
    (z_sorted : PySem.W.nsIn K mainGlobals "sorted" = some none)
    (z_str : PySem.W.nsIn K mainGlobals "str" = some none)
    (z_sum : PySem.W.nsIn K mainGlobals "sum" = some none)
    (z_tuple : PySem.W.nsIn K mainGlobals "tuple" = some none)
    {cl_Floor fIn fBu fGo fCa pGo fTu fDi : Addr} {ocI docI pmI cdI ctI ocB kVB docB pmB cdB ctB ocG kVG docG pmG cdG ctG ocC kVC docC pmC cdC ctC ocT : Value} {odI anI odB anB odG anG odC anC odT : Option Addr} {slI slB slG slC slT : Array (Option Value)} {itsT : Array Value} {nT : Nat} {tkM tkD : Tok} {restG : List Value}
    (s1 : PySem.W.nsIn K mainGlobals "Floor" = some (some (.ref cl_Floor)))
    (s2 : PySem.W.plainGet K cl_Floor Str.empty = true)
    (s3 : PySem.W.hasDictIn K cl_Floor = true)
    (s4 : PySem.W.plainOver K cl_Floor = true)
    (s5 : PySem.W.findIn K (.ref cl_Floor) "__setattr__" = some (some (.builtin "object.__setattr__")))
    (s6 : PySem.W.findIn K (.ref cl_Floor) "kind" = some none)
    (s7 : PySem.W.findIn K (.ref cl_Floor) "least" = some none)
    (s8 : PySem.W.findIn K (.ref cl_Floor) "steps" = some none)
    (s9 : PySem.W.makesIn K cl_Floor = true)
    (s10 : PySem.W.findIn K (.ref cl_Floor) "__init__" = some (some (.ref fIn)))
    (s11 : PySem.W.isFn K (.ref fIn) = true)
    (s12 : PySem.W.keepIn K (.ref cl_Floor) = true)
    (s13 : K.lookup fIn = some ⟨ocI, odI, .func (PySem.W.fnOf "__init__" "Floor.__init__" (defArgs sInitF) (defBody sInitF) (defScope sInitF) (.ref fTu) (.ref fDi) docI pmI anI cdI ctI), slI⟩)
    (s14 : PySem.W.codeIn K cdI "Floor.__init__" = true)
    (s15 : PySem.W.keepIn K (.ref fIn) = true)
    (s16 : K.lookup fTu = some ⟨ocT, odT, .seq itsT nT, slT⟩)
    (s17 : ∃ t, itsT.toList = [Value.int 0 t])
    (s18 : PySem.W.nsIn K fDi "least" = some (some (.int 1 tkD)))
    (s19 : PySem.W.findIn K (.ref cl_Floor) "build" = some (some (.ref fBu)))
    (s20 : PySem.W.isFn K (.ref fBu) = true)
    (s21 : PySem.W.keepIn K (.ref fBu) = true)
    (s22 : K.lookup fBu = some ⟨ocB, odB, .func (PySem.W.fnOf "build" "Floor.build" (defArgs sBuildF) (defBody sBuildF) (defScope sBuildF) .none kVB docB pmB anB cdB ctB), slB⟩)
    (s23 : PySem.W.codeIn K cdB "Floor.build" = true)
    (s24 : PySem.W.readsIn K cl_Floor (.type "type") = true)
    (s25 : PySem.W.specialIn K (.ref cl_Floor) "__getattribute__" = some (some (.builtin "type.__getattribute__")))
    (s26 : PySem.W.findCls K (.ref cl_Floor) (.type "type") "MOST" = some (.val (.int 12 tkM)))
    (s27 : PySem.W.findIn K (.ref cl_Floor) "good" = some (some (.ref pGo)))
    (s28 : PySem.W.specialIn K (.ref pGo) "__get__" = some (some (.builtin "property.__get__")))
    (s29 : PySem.W.takesIn K (.ref pGo) = some true)
    (s30 : PySem.W.recIn K pGo "property" = some (.ref fGo :: restG))
    (s31 : K.lookup fGo = some ⟨ocG, odG, .func (PySem.W.fnOf "good" "Floor.good" (defArgs sGoodF) (defBody sGoodF) (defScope sGoodF) .none kVG docG pmG anG cdG ctG), slG⟩)
    (s32 : PySem.W.codeIn K cdG "Floor.good" = true)
    (s33 : PySem.W.keepIn K (.ref fGo) = true)
    (s34 : PySem.W.findIn K (.ref cl_Floor) "__call__" = some (some (.ref fCa)))
    (s35 : PySem.W.isFn K (.ref fCa) = true)
    (s36 : PySem.W.fnIn K fCa = true)
    (s37 : K.lookup fCa = some ⟨ocC, odC, .func (PySem.W.fnOf "__call__" "Floor.__call__" (defArgs sCallF) (defBody sCallF) (defScope sCallF) .none kVC docC pmC anC cdC ctC), slC⟩)
    (s38 : PySem.W.codeIn K cdC "Floor.__call__" = true)
    (s39 : PySem.W.keepIn K (.ref fCa) = true)
    : ∃ fd : FuncData, (∀ (s : Shared) (v : Value), BindsTo s fd ⟨[v], []⟩ [("script", v)]) ∧ ∀ base : Heap, K.In base → base.Ns mainGlobals mg → FnOk l.prog w K mg base (L2N.CX l.prog w) 8 fa fd ["script"] (spLaw K) := by
  have e := hfa.symm.trans (PySem.W.mg_of X G a_law)
  cases e
  have m_all : mg "all" = none := PySem.W.mg_none_of X G z_all
  have m_bool : mg "bool" = none := PySem.W.mg_none_of X G z_bool
  have m_enumerate : mg "enumerate" = none := PySem.W.mg_none_of X G z_enumerate
  have m_int : mg "int" = none := PySem.W.mg_none_of X G z_int
  have m_isinstance : mg "isinstance" = none := PySem.W.mg_none_of X G z_isinstance
  have m_len : mg "len" = none := PySem.W.mg_none_of X G z_len
  have m_max : mg "max" = none := PySem.W.mg_none_of X G z_max
  have m_min : mg "min" = none := PySem.W.mg_none_of X G z_min
  have m_range : mg "range" = none := PySem.W.mg_none_of X G z_range
  have m_sorted : mg "sorted" = none := PySem.W.mg_none_of X G z_sorted
  have m_str : mg "str" = none := PySem.W.mg_none_of X G z_str
  have m_sum : mg "sum" = none := PySem.W.mg_none_of X G z_sum
  have m_tuple : mg "tuple" = none := PySem.W.mg_none_of X G z_tuple
  have c_MAX_JOINT : ∃ t, mg "MAX_JOINT" = some (.int 20 t) := ⟨_, PySem.W.mg_of X G q_MAX_JOINT⟩
  have c_MAX_TILE : ∃ t, mg "MAX_TILE" = some (.int 500 t) := ⟨_, PySem.W.mg_of X G q_MAX_TILE⟩
  have x_InvalidBorder : XF K mg "InvalidBorder" cl_InvalidBorder := ⟨PySem.W.mg_of X G e0_InvalidBorder, e1_InvalidBorder, e2_InvalidBorder, e3_InvalidBorder, e4_InvalidBorder⟩
  have x_InvalidKind : XF K mg "InvalidKind" cl_InvalidKind := ⟨PySem.W.mg_of X G e0_InvalidKind, e1_InvalidKind, e2_InvalidKind, e3_InvalidKind, e4_InvalidKind⟩
  have x_InvalidNumber : XF K mg "InvalidNumber" cl_InvalidNumber := ⟨PySem.W.mg_of X G e0_InvalidNumber, e1_InvalidNumber, e2_InvalidNumber, e3_InvalidNumber, e4_InvalidNumber⟩
  have x_InvalidOffset : XF K mg "InvalidOffset" cl_InvalidOffset := ⟨PySem.W.mg_of X G e0_InvalidOffset, e1_InvalidOffset, e2_InvalidOffset, e3_InvalidOffset, e4_InvalidOffset⟩
  have x_InvalidRow : XF K mg "InvalidRow" cl_InvalidRow := ⟨PySem.W.mg_of X G e0_InvalidRow, e1_InvalidRow, e2_InvalidRow, e3_InvalidRow, e4_InvalidRow⟩
  have x_InvalidSeen : XF K mg "InvalidSeen" cl_InvalidSeen := ⟨PySem.W.mg_of X G e0_InvalidSeen, e1_InvalidSeen, e2_InvalidSeen, e3_InvalidSeen, e4_InvalidSeen⟩
  have x_InvalidSide : XF K mg "InvalidSide" cl_InvalidSide := ⟨PySem.W.mg_of X G e0_InvalidSide, e1_InvalidSide, e2_InvalidSide, e3_InvalidSide, e4_InvalidSide⟩
  have D_is_integer : Df K mg "is_integer" st_is_integer ["value", "low", "high"] := df_mk X G a_is_integer l_is_integer c_is_integer k_is_integer fun _ _ _ _ _ _ us hl => match us, hl with | [_, _, _], _ => rfl
  have D_is_pair : Df K mg "is_pair" st_is_pair ["value"] := df_mk X G a_is_pair l_is_pair c_is_pair k_is_pair fun _ _ _ _ _ _ us hl => match us, hl with | [_], _ => rfl
  have D_is_kind : Df K mg "is_kind" st_is_kind ["value"] := df_mk X G a_is_kind l_is_kind c_is_kind k_is_kind fun _ _ _ _ _ _ us hl => match us, hl with | [_], _ => rfl
  have D_is_side : Df K mg "is_side" st_is_side ["value"] := df_mk X G a_is_side l_is_side c_is_side k_is_side fun _ _ _ _ _ _ us hl => match us, hl with | [_], _ => rfl
  have D_is_border : Df K mg "is_border" st_is_border ["value"] := df_mk X G a_is_border l_is_border c_is_border k_is_border fun _ _ _ _ _ _ us hl => match us, hl with | [_], _ => rfl
  have D_step_of : Df K mg "step_of" st_step_of ["kind"] := df_mk X G a_step_of l_step_of c_step_of k_step_of fun _ _ _ _ _ _ us hl => match us, hl with | [_], _ => rfl
  have D_row_fits : Df K mg "row_fits" st_row_fits ["kind", "value"] := df_mk X G a_row_fits l_row_fits c_row_fits k_row_fits fun _ _ _ _ _ _ us hl => match us, hl with | [_, _], _ => rfl
  have D_need_kind : Df K mg "need_kind" st_need_kind ["value"] := df_mk X G a_need_kind l_need_kind c_need_kind k_need_kind fun _ _ _ _ _ _ us hl => match us, hl with | [_], _ => rfl
  have D_need_offset : Df K mg "need_offset" st_need_offset ["kind", "value"] := df_mk X G a_need_offset l_need_offset c_need_offset k_need_offset fun _ _ _ _ _ _ us hl => match us, hl with | [_, _], _ => rfl
  have D_need_border : Df K mg "need_border" st_need_border ["value"] := df_mk X G a_need_border l_need_border c_need_border k_need_border fun _ _ _ _ _ _ us hl => match us, hl with | [_], _ => rfl
  have D_need_borders : Df K mg "need_borders" st_need_borders ["value"] := df_mk X G a_need_borders l_need_borders c_need_borders k_need_borders fun _ _ _ _ _ _ us hl => match us, hl with | [_], _ => rfl
  have D_need_row : Df K mg "need_row" st_need_row ["kind", "value"] := df_mk X G a_need_row l_need_row c_need_row k_need_row fun _ _ _ _ _ _ us hl => match us, hl with | [_, _], _ => rfl
  have D_need_rows : Df K mg "need_rows" st_need_rows ["kind", "value"] := df_mk X G a_need_rows l_need_rows c_need_rows k_need_rows fun _ _ _ _ _ _ us hl => match us, hl with | [_, _], _ => rfl
  have D_need_number : Df K mg "need_number" st_need_number ["value", "low", "high"] := df_mk X G a_need_number l_need_number c_need_number k_need_number fun _ _ _ _ _ _ us hl => match us, hl with | [_, _, _], _ => rfl
  have D_width_of : Df K mg "width_of" st_width_of ["kind", "offset", "border"] := df_mk X G a_width_of l_width_of c_width_of k_width_of fun _ _ _ _ _ _ us hl => match us, hl with | [_, _, _], _ => rfl
  have D_pieces_of : Df K mg "pieces_of" st_pieces_of ["kind", "offset", "row"] := df_mk X G a_pieces_of l_pieces_of c_pieces_of k_pieces_of fun _ _ _ _ _ _ us hl => match us, hl with | [_, _, _], _ => rfl
  have D_row_pieces : Df K mg "row_pieces" st_row_pieces ["kind", "offset", "row"] := df_mk X G a_row_pieces l_row_pieces c_row_pieces k_row_pieces fun _ _ _ _ _ _ us hl => match us, hl with | [_, _, _], _ => rfl
  have D_narrowest : Df K mg "narrowest" st_narrowest ["kind", "offset", "borders"] := df_mk X G a_narrowest l_narrowest c_narrowest k_narrowest fun _ _ _ _ _ _ us hl => match us, hl with | [_, _, _], _ => rfl
  have D_good_of : Df K mg "good_of" st_good_of ["kind", "borders", "least"] := df_mk X G a_good_of l_good_of c_good_of k_good_of fun _ _ _ _ _ _ us hl => match us, hl with | [_, _, _], _ => rfl
  have D_widest_of : Df K mg "widest_of" st_widest_of ["kind", "borders"] := df_mk X G a_widest_of l_widest_of c_widest_of k_widest_of fun _ _ _ _ _ _ us hl => match us, hl with | [_, _], _ => rfl
  have D_widest_least : Df K mg "widest_least" st_widest_least ["kind", "borders"] := df_mk X G a_widest_least l_widest_least c_widest_least k_widest_least fun _ _ _ _ _ _ us hl => match us, hl with | [_, _], _ => rfl
  have D_best_offsets : Df K mg "best_offsets" st_best_offsets ["kind", "borders"] := df_mk X G a_best_offsets l_best_offsets c_best_offsets k_best_offsets fun _ _ _ _ _ _ us hl => match us, hl with | [_, _], _ => rfl
  have D_uncut_offsets : Df K mg "uncut_offsets" st_uncut_offsets ["kind", "borders"] := df_mk X G a_uncut_offsets l_uncut_offsets c_uncut_offsets k_uncut_offsets fun _ _ _ _ _ _ us hl => match us, hl with | [_, _], _ => rfl
  have D_even_offsets : Df K mg "even_offsets" st_even_offsets ["kind", "row"] := df_mk X G a_even_offsets l_even_offsets c_even_offsets k_even_offsets fun _ _ _ _ _ _ us hl => match us, hl with | [_, _], _ => rfl
  have D_need_shifts : Df K mg "need_shifts" st_need_shifts ["kind", "value"] := df_mk X G a_need_shifts l_need_shifts c_need_shifts k_need_shifts fun _ _ _ _ _ _ us hl => match us, hl with | [_, _], _ => rfl
  have D_narrowest_of : Df K mg "narrowest_of" st_narrowest_of ["kind", "offset", "borders", "shifts"] := df_mk X G a_narrowest_of l_narrowest_of c_narrowest_of k_narrowest_of fun _ _ _ _ _ _ us hl => match us, hl with | [_, _, _, _], _ => rfl
  have D_good_shifted : Df K mg "good_shifted" st_good_shifted ["kind", "borders", "least", "shifts"] := df_mk X G a_good_shifted l_good_shifted c_good_shifted k_good_shifted fun _ _ _ _ _ _ us hl => match us, hl with | [_, _, _, _], _ => rfl
  have D_widest_shifted : Df K mg "widest_shifted" st_widest_shifted ["kind", "borders", "shifts"] := df_mk X G a_widest_shifted l_widest_shifted c_widest_shifted k_widest_shifted fun _ _ _ _ _ _ us hl => match us, hl with | [_, _, _], _ => rfl
  have D_pairs_of : Df K mg "pairs_of" st_pairs_of ["kind", "offset", "rows", "saw"] := df_mk X G a_pairs_of l_pairs_of c_pairs_of k_pairs_of fun _ _ _ _ _ _ us hl => match us, hl with | [_, _, _, _], _ => rfl
  have D_needed : Df K mg "needed" st_needed ["kind", "offset", "rows", "saw"] := df_mk X G a_needed l_needed c_needed k_needed fun _ _ _ _ _ _ us hl => match us, hl with | [_, _, _, _], _ => rfl
  have D_pairs : Df K mg "pairs" st_pairs ["kind", "offset", "rows", "saw"] := df_mk X G a_pairs l_pairs c_pairs k_pairs fun _ _ _ _ _ _ us hl => match us, hl with | [_, _, _, _], _ => rfl
  have D_tiles_needed : Df K mg "tiles_needed" st_tiles_needed ["kind", "offset", "rows", "saw"] := df_mk X G a_tiles_needed l_tiles_needed c_tiles_needed k_tiles_needed fun _ _ _ _ _ _ us hl => match us, hl with | [_, _, _, _], _ => rfl
  have D_fewest_tiles : Df K mg "fewest_tiles" st_fewest_tiles ["kind", "rows", "saw"] := df_mk X G a_fewest_tiles l_fewest_tiles c_fewest_tiles k_fewest_tiles fun _ _ _ _ _ _ us hl => match us, hl with | [_, _, _], _ => rfl
  have D_cheap_offsets : Df K mg "cheap_offsets" st_cheap_offsets ["kind", "rows", "saw", "number"] := df_mk X G a_cheap_offsets l_cheap_offsets c_cheap_offsets k_cheap_offsets fun _ _ _ _ _ _ us hl => match us, hl with | [_, _, _, _], _ => rfl
  have D_good_tiles : Df K mg "good_tiles" st_good_tiles ["joint", "borders", "least", "low", "high"] := df_mk X G a_good_tiles l_good_tiles c_good_tiles k_good_tiles fun _ _ _ _ _ _ us hl => match us, hl with | [_, _, _, _, _], _ => rfl
  have D_free_places : Df K mg "free_places" st_free_places ["kind", "borders", "least", "side"] := df_mk X G a_free_places l_free_places c_free_places k_free_places fun _ _ _ _ _ _ us hl => match us, hl with | [_, _, _, _], _ => rfl
  have D_needless_borders : Df K mg "needless_borders" st_needless_borders ["kind", "borders", "least"] := df_mk X G a_needless_borders l_needless_borders c_needless_borders k_needless_borders fun _ _ _ _ _ _ us hl => match us, hl with | [_, _, _], _ => rfl
  have D_is_seen : Df K mg "is_seen" st_is_seen ["value"] := df_mk X G a_is_seen l_is_seen c_is_seen k_is_seen fun _ _ _ _ _ _ us hl => match us, hl with | [_], _ => rfl
  have D_need_seen : Df K mg "need_seen" st_need_seen ["value"] := df_mk X G a_need_seen l_need_seen c_need_seen k_need_seen fun _ _ _ _ _ _ us hl => match us, hl with | [_], _ => rfl
  have D_offsets_of : Df K mg "offsets_of" st_offsets_of ["kind", "seen"] := df_mk X G a_offsets_of l_offsets_of c_offsets_of k_offsets_of fun _ _ _ _ _ _ us hl => match us, hl with | [_, _], _ => rfl
  have D_offsets_for : Df K mg "offsets_for" st_offsets_for ["kind", "seen"] := df_mk X G a_offsets_for l_offsets_for c_offsets_for k_offsets_for fun _ _ _ _ _ _ us hl => match us, hl with | [_, _], _ => rfl
  have D_law_cell_at : Df K mg "_law_cell_at" st_law_cell_at ["script", "k"] := df_mk X G a_law_cell_at l_law_cell_at c_law_cell_at k_law_cell_at fun _ _ _ _ _ _ us hl => match us, hl with | [_, _], _ => rfl
  have D_law_draws : Df K mg "_law_draws" st_law_draws ["cell", "many", "size"] := df_mk X G a_law_draws l_law_draws c_law_draws k_law_draws fun _ _ _ _ _ _ us hl => match us, hl with | [_, _, _], _ => rfl
  have D_law_bag : Df K mg "_law_bag" st_law_bag ["script", "k"] := df_mk X G a_law_bag l_law_bag c_law_bag k_law_bag fun _ _ _ _ _ _ us hl => match us, hl with | [_, _], _ => rfl
  have D_law_bags : Df K mg "_law_bags" st_law_bags ["script", "limit"] := df_mk X G a_law_bags l_law_bags c_law_bags k_law_bags fun _ _ _ _ _ _ us hl => match us, hl with | [_, _], _ => rfl
  have D_law_take : Df K mg "_law_take" st_law_take ["bag", "many"] := df_mk X G a_law_take l_law_take c_law_take k_law_take fun _ _ _ _ _ _ us hl => match us, hl with | [_, _], _ => rfl
  have D_law_evens : Df K mg "_law_evens" st_law_evens ["tile", "rest"] := df_mk X G a_law_evens l_law_evens c_law_evens k_law_evens fun _ _ _ _ _ _ us hl => match us, hl with | [_, _], _ => rfl
  have D_law_opposite_right : Df K mg "_law_opposite_right" st_law_opposite_right ["tile", "rest"] := df_mk X G a_law_opposite_right l_law_opposite_right c_law_opposite_right k_law_opposite_right fun _ _ _ _ _ _ us hl => match us, hl with | [_, _], _ => rfl
  have D_law_whole_right : Df K mg "_law_whole_right" st_law_whole_right ["tile", "joint_so", "many"] := df_mk X G a_law_whole_right l_law_whole_right c_law_whole_right k_law_whole_right fun _ _ _ _ _ _ us hl => match us, hl with | [_, _, _], _ => rfl
  refine ⟨PySem.W.fnOf "law" "law" (defArgs st_law) (defBody st_law) (defScope st_law) .none kV_law dc_law pm_law an_law cd_law ct_law, fun s v => .of_eq rfl, fun base _ _ => ?_⟩
  have g_is_integer := ok_is_integer (P := l.prog) (w := w) (base := base) D_is_integer m_bool m_int m_isinstance
  have g_is_pair := ok_is_pair (P := l.prog) (w := w) (base := base) D_is_pair m_isinstance m_len m_tuple
  have g_is_kind := ok_is_kind (P := l.prog) (w := w) (base := base) D_is_kind c_MAX_JOINT c_MAX_TILE g_is_pair g_is_integer
  have g_is_side := ok_is_side (P := l.prog) (w := w) (base := base) D_is_side m_isinstance m_str
  have g_is_border := ok_is_border (P := l.prog) (w := w) (base := base) D_is_border g_is_pair g_is_integer g_is_side
  have g_step_of := ok_step_of (P := l.prog) (w := w) (base := base) D_step_of 
  have g_row_fits := ok_row_fits (P := l.prog) (w := w) (base := base) D_row_fits m_all g_is_pair g_is_integer g_step_of
  have g_need_kind := ok_need_kind (P := l.prog) (w := w) (base := base) D_need_kind g_is_kind x_InvalidKind
  have g_need_offset := ok_need_offset (P := l.prog) (w := w) (base := base) D_need_offset g_is_integer g_step_of x_InvalidOffset
  have g_need_border := ok_need_border (P := l.prog) (w := w) (base := base) D_need_border g_is_border x_InvalidBorder
  have g_need_borders := ok_need_borders (P := l.prog) (w := w) (base := base) D_need_borders m_all m_isinstance m_len m_tuple g_is_border x_InvalidBorder
  have g_need_row := ok_need_row (P := l.prog) (w := w) (base := base) D_need_row g_row_fits x_InvalidRow
  have g_need_rows := ok_need_rows (P := l.prog) (w := w) (base := base) D_need_rows m_all m_isinstance m_len m_tuple g_row_fits x_InvalidRow
  have g_need_number := ok_need_number (P := l.prog) (w := w) (base := base) D_need_number g_is_integer x_InvalidNumber
  have g_width_of := ok_width_of (P := l.prog) (w := w) (base := base) D_width_of m_max g_step_of
  have g_pieces_of := ok_pieces_of (P := l.prog) (w := w) (base := base) D_pieces_of g_step_of g_width_of
  have g_row_pieces := ok_row_pieces (P := l.prog) (w := w) (base := base) D_row_pieces g_need_kind g_need_offset g_need_row g_pieces_of
  have g_narrowest := ok_narrowest (P := l.prog) (w := w) (base := base) D_narrowest m_min g_width_of
  have g_good_of := ok_good_of (P := l.prog) (w := w) (base := base) D_good_of m_range g_step_of g_narrowest
  have g_widest_of := ok_widest_of (P := l.prog) (w := w) (base := base) D_widest_of m_max m_range g_step_of g_narrowest
  have g_widest_least := ok_widest_least (P := l.prog) (w := w) (base := base) D_widest_least g_need_kind g_need_borders g_widest_of
  have g_best_offsets := ok_best_offsets (P := l.prog) (w := w) (base := base) D_best_offsets g_need_kind g_need_borders g_good_of g_widest_of
  have g_uncut_offsets := ok_uncut_offsets (P := l.prog) (w := w) (base := base) D_uncut_offsets g_need_kind g_need_borders g_good_of
  have g_even_offsets := ok_even_offsets (P := l.prog) (w := w) (base := base) D_even_offsets m_range g_need_kind g_need_row g_step_of g_width_of
  have g_need_shifts := ok_need_shifts (P := l.prog) (w := w) (base := base) D_need_shifts g_is_integer g_step_of x_InvalidNumber
  have g_narrowest_of := ok_narrowest_of (P := l.prog) (w := w) (base := base) D_narrowest_of m_min m_range g_step_of g_narrowest
  have g_good_shifted := ok_good_shifted (P := l.prog) (w := w) (base := base) D_good_shifted m_range g_need_kind g_need_borders g_need_number g_need_shifts g_step_of g_narrowest_of
  have g_widest_shifted := ok_widest_shifted (P := l.prog) (w := w) (base := base) D_widest_shifted m_max m_range g_need_kind g_need_borders g_need_shifts g_step_of g_narrowest_of
  have g_pairs_of := ok_pairs_of (P := l.prog) (w := w) (base := base) D_pairs_of m_enumerate m_sorted g_pieces_of
  have g_needed := ok_needed (P := l.prog) (w := w) (base := base) D_needed m_int m_len m_sum g_pieces_of g_pairs_of
  have g_pairs := ok_pairs (P := l.prog) (w := w) (base := base) D_pairs g_need_kind g_need_offset g_need_rows g_need_number g_pairs_of
  have g_tiles_needed := ok_tiles_needed (P := l.prog) (w := w) (base := base) D_tiles_needed g_need_kind g_need_offset g_need_rows g_need_number g_needed
  have g_fewest_tiles := ok_fewest_tiles (P := l.prog) (w := w) (base := base) D_fewest_tiles m_min m_range g_need_kind g_need_rows g_need_number g_step_of g_needed
  have g_cheap_offsets := ok_cheap_offsets (P := l.prog) (w := w) (base := base) D_cheap_offsets m_range g_need_kind g_need_rows g_need_number g_step_of g_needed
  have g_good_tiles := ok_good_tiles (P := l.prog) (w := w) (base := base) D_good_tiles m_range c_MAX_JOINT c_MAX_TILE g_need_number g_need_borders g_good_of
  have g_free_places := ok_free_places (P := l.prog) (w := w) (base := base) D_free_places m_all m_range g_need_kind g_need_borders g_need_number g_is_side g_good_of g_step_of g_width_of x_InvalidSide
  have g_needless_borders := ok_needless_borders (P := l.prog) (w := w) (base := base) D_needless_borders m_len m_range g_need_kind g_need_borders g_need_number g_good_of
  have g_is_seen := ok_is_seen (P := l.prog) (w := w) (base := base) D_is_seen c_MAX_TILE g_is_pair g_is_border g_is_integer
  have g_need_seen := ok_need_seen (P := l.prog) (w := w) (base := base) D_need_seen m_all m_isinstance m_len m_tuple g_is_seen x_InvalidSeen
  have g_offsets_of := ok_offsets_of (P := l.prog) (w := w) (base := base) D_offsets_of m_all m_range g_step_of g_width_of
  have g_offsets_for := ok_offsets_for (P := l.prog) (w := w) (base := base) D_offsets_for g_need_kind g_need_seen g_offsets_of
  have g_law_cell_at := ok_law_cell_at (P := l.prog) (w := w) (base := base) D_law_cell_at m_len
  have g_law_draws := ok_law_draws (P := l.prog) (w := w) (base := base) D_law_draws m_int m_range
  have g_law_bag := ok_law_bag (P := l.prog) (w := w) (base := base) D_law_bag g_law_draws g_law_cell_at
  have g_law_bags := ok_law_bags (P := l.prog) (w := w) (base := base) D_law_bags m_len m_max m_min m_range g_law_bag
  have g_law_take := ok_law_take (P := l.prog) (w := w) (base := base) D_law_take m_len
  have g_law_evens := ok_law_evens (P := l.prog) (w := w) (base := base) D_law_evens m_len m_range
  have g_law_opposite_right := ok_law_opposite_right (P := l.prog) (w := w) (base := base) D_law_opposite_right m_len m_max g_widest_least g_even_offsets g_law_evens
  have g_law_whole_right := ok_law_whole_right (P := l.prog) (w := w) (base := base) D_law_whole_right g_uncut_offsets g_widest_least g_row_pieces g_tiles_needed g_fewest_tiles
  have T22 : FTxt K mg cl_Floor := ⟨⟨s2, s3, s4, s5⟩, s6, s7, s8, PySem.W.mg_of X G s1⟩
  have FI : FunD K "__init__" "Floor.__init__" (defArgs sInitF) (defBody sInitF) (defScope sInitF) [.int 0] [("least", .int 1)] fIn (PySem.W.fnOf "__init__" "Floor.__init__" (defArgs sInitF) (defBody sInitF) (defScope sInitF) (.ref fTu) (.ref fDi) docI pmI anI cdI ctI) :=
    ⟨⟨_, _, _, _, _, _, _, _, _, _, rfl, s13, s14, .inr ⟨by simp, fTu, _, itsT.toList, nT, rfl, s16, by simp, by obtain ⟨t, e⟩ := s17; rw [e]; exact .cons ⟨t, rfl⟩ .nil⟩, .inr ⟨fDi, rfl, fun q hq => by rw [List.mem_singleton.mp hq]; exact ⟨_, s18, ⟨_, rfl⟩⟩⟩⟩, s15⟩
  have FG := fun_mk (st := sGoodF) s31 s32 s33
  have FC := fun_mk (st := sCallF) s37 s38 s39
  have g_shop : ShopOk l.prog w K mg base := ⟨cl_Floor, fIn, fBu, fGo, fCa, pGo, _, _, _, T22, ⟨s9, s10, s11, s12⟩, FI, ok_initF FI T22 m_tuple m_range g_is_kind g_need_number, ⟨s19, s20, s21⟩, ok_buildF s22 s23 T22 ⟨s24, s25⟩ ⟨s26, ⟨_, rfl⟩⟩ m_tuple m_len g_need_border g_good_of, ⟨s27, s28, s29, _, s30⟩, ok_goodF FG T22,
    FG.binds (ps := ["self"]) (fun _ _ _ _ _ _ us hl => match us, hl with | [_], _ => rfl), ⟨s34, s35, s36⟩, ok_callF FC T22 m_tuple g_need_offset g_width_of, FC.binds (ps := ["self", "offset"]) (fun _ _ _ _ _ _ us hl => match us, hl with | [_, _], _ => rfl)⟩
  exact ok_law (fun_mk (st := st_law) l_law c_law k_law) m_min g_law_take g_law_opposite_right g_law_whole_right g_tiles_needed g_row_pieces g_best_offsets g_even_offsets g_good_shifted g_widest_shifted g_pairs g_fewest_tiles g_cheap_offsets g_good_tiles g_free_places g_offsets_for g_needless_borders g_law_bags g_shop
end Tp
open PySem PySem.W PyProof.Rows in
set_option maxRecDepth 100000 in
set_option maxHeartbeats 0 in
theorem PySem.Challenge.cw_tilecuts_k22_whole_worked_examples_holds : PySem.Challenge.rw_tilecuts_k22_whole_worked_examples.Holds := by
  w_on; o_law; k_head; (case hw => w_witness2)
  k_fill
  refine L2.walk_of (l := PySem.Challenge.rw_tilecuts_k22_whole_worked_examples) (n := 63) (k := 8) (x := "script") (CX := fun w => L2N.CX PySem.Challenge.rw_tilecuts_k22_whole_worked_examples.prog w) (sp := fun w => Tl.spLaw _) rfl (by decide) rfl ⟨rfl, by decide, by decide⟩ (fun w h Y => PySem.W.kIn_of Y) ?F (fun _ _ a ns hl _ hS => ⟨a, ns, rfl, hS, hl, fun _ => rfl⟩) fun _ _ _ _ _ z => Tp.cx_no z
  case F =>
    intro w mg fa h KX G hmg
    refine' Tp.all_mk KX G hmg ?a_is_integer ?l_is_integer ?c_is_integer ?k_is_integer ?a_is_pair ?l_is_pair ?c_is_pair ?k_is_pair ?a_is_kind ?l_is_kind ?c_is_kind ?k_is_kind ?a_is_side ?l_is_side ?c_is_side ?k_is_side ?a_is_border ?l_is_border ?c_is_border ?k_is_border ?a_step_of ?l_step_of ?c_step_of ?k_step_of ?a_row_fits ?l_row_fits ?c_row_fits ?k_row_fits ?a_need_kind ?l_need_kind ?c_need_kind ?k_need_kind ?a_need_offset ?l_need_offset ?c_need_offset ?k_need_offset ?a_need_border ?l_need_border ?c_need_border ?k_need_border ?a_need_borders ?l_need_borders ?c_need_borders ?k_need_borders ?a_need_row ?l_need_row ?c_need_row ?k_need_row ?a_need_rows ?l_need_rows ?c_need_rows ?k_need_rows ?a_need_number ?l_need_number ?c_need_number ?k_need_number ?a_width_of ?l_width_of ?c_width_of ?k_width_of ?a_pieces_of ?l_pieces_of ?c_pieces_of ?k_pieces_of ?a_row_pieces ?l_row_pieces ?c_row_pieces ?k_row_pieces ?a_narrowest ?l_narrowest ?c_narrowest ?k_narrowest ?a_good_of ?l_good_of ?c_good_of ?k_good_of ?a_widest_of ?l_widest_of ?c_widest_of ?k_widest_of ?a_widest_least ?l_widest_least ?c_widest_least ?k_widest_least ?a_best_offsets ?l_best_offsets ?c_best_offsets ?k_best_offsets ?a_uncut_offsets ?l_uncut_offsets ?c_uncut_offsets ?k_uncut_offsets ?a_even_offsets ?l_even_offsets ?c_even_offsets ?k_even_offsets ?a_need_shifts ?l_need_shifts ?c_need_shifts ?k_need_shifts ?a_narrowest_of ?l_narrowest_of ?c_narrowest_of ?k_narrowest_of ?a_good_shifted ?l_good_shifted ?c_good_shifted ?k_good_shifted ?a_widest_shifted ?l_widest_shifted ?c_widest_shifted ?k_widest_shifted ?a_pairs_of ?l_pairs_of ?c_pairs_of ?k_pairs_of ?a_needed ?l_needed ?c_needed ?k_needed ?a_pairs ?l_pairs ?c_pairs ?k_pairs ?a_tiles_needed ?l_tiles_needed ?c_tiles_needed ?k_tiles_needed ?a_fewest_tiles ?l_fewest_tiles ?c_fewest_tiles ?k_fewest_tiles ?a_cheap_offsets ?l_cheap_offsets ?c_cheap_offsets ?k_cheap_offsets ?a_good_tiles ?l_good_tiles ?c_good_tiles ?k_good_tiles ?a_free_places ?l_free_places ?c_free_places ?k_free_places ?a_needless_borders ?l_needless_borders ?c_needless_borders ?k_needless_borders ?a_is_seen ?l_is_seen ?c_is_seen ?k_is_seen ?a_need_seen ?l_need_seen ?c_need_seen ?k_need_seen ?a_offsets_of ?l_offsets_of ?c_offsets_of ?k_offsets_of ?a_offsets_for ?l_offsets_for ?c_offsets_for ?k_offsets_for ?a_law_cell_at ?l_law_cell_at ?c_law_cell_at ?k_law_cell_at ?a_law_draws ?l_law_draws ?c_law_draws ?k_law_draws ?a_law_bag ?l_law_bag ?c_law_bag ?k_law_bag ?a_law_bags ?l_law_bags ?c_law_bags ?k_law_bags ?a_law_take ?l_law_take ?c_law_take ?k_law_take ?a_law_evens ?l_law_evens ?c_law_evens ?k_law_evens ?a_law_opposite_right ?l_law_opposite_right ?c_law_opposite_right ?k_law_opposite_right ?a_law_whole_right ?l_law_whole_right ?c_law_whole_right ?k_law_whole_right ?a_law ?l_law ?c_law ?k_law ?q_MAX_JOINT ?q_MAX_TILE ?e0_InvalidBorder ?e0_InvalidKind ?e0_InvalidNumber ?e0_InvalidOffset ?e0_InvalidRow ?e0_InvalidSeen ?e0_InvalidSide ?e1_InvalidBorder ?e2_InvalidBorder ?e3_InvalidBorder ?e4_InvalidBorder ?e1_InvalidKind ?e2_InvalidKind ?e3_InvalidKind ?e4_InvalidKind ?e1_InvalidNumber ?e2_InvalidNumber ?e3_InvalidNumber ?e4_InvalidNumber ?e1_InvalidOffset ?e2_InvalidOffset ?e3_InvalidOffset ?e4_InvalidOffset ?e1_InvalidRow ?e2_InvalidRow ?e3_InvalidRow ?e4_InvalidRow ?e1_InvalidSeen ?e2_InvalidSeen ?e3_InvalidSeen ?e4_InvalidSeen ?e1_InvalidSide ?e2_InvalidSide ?e3_InvalidSide ?e4_InvalidSide ?z_all ?z_bool ?z_enumerate ?z_int ?z_isinstance ?z_len ?z_max ?z_min ?z_range ?z_sorted ?z_str ?z_sum ?z_tuple ?s1 ?s2 ?s3 ?s4 ?s5 ?s6 ?s7 ?s8 ?s9 ?s10 ?s11 ?s12 ?s13 ?s14 ?s15 ?s16 ?s17 ?s18 ?s19 ?s20 ?s21 ?s22 ?s23 ?s24 ?s25 ?s26 ?s27 ?s28 ?s29 ?s30 ?s31 ?s32 ?s33 ?s34 ?s35 ?s36 ?s37 ?s38 ?s39
    (case a_is_integer => k_is)
    (case l_is_integer => k_is)
    (case c_is_integer => k_is)
    (case k_is_integer => k_is)
    (case a_is_pair => k_is)
    (case l_is_pair => k_is)
    (case c_is_pair => k_is)
    (case k_is_pair => k_is)
    (case a_is_kind => k_is)
    (case l_is_kind => k_is)
    (case c_is_kind => k_is)
    (case k_is_kind => k_is)
    (case a_is_side => k_is)
    (case l_is_side => k_is)
    (case c_is_side => k_is)
    (case k_is_side => k_is)
    (case a_is_border => k_is)
    (case l_is_border => k_is)
    (case c_is_border => k_is)
    (case k_is_border => k_is)
    (case a_step_of => k_is)
    (case l_step_of => k_is)
    (case c_step_of => k_is)
    (case k_step_of => k_is)
    (case a_row_fits => k_is)
    (case l_row_fits => k_is)
    (case c_row_fits => k_is)
    (case k_row_fits => k_is)
    (case a_need_kind => k_is)
    (case l_need_kind => k_is)
    (case c_need_kind => k_is)
    (case k_need_kind => k_is)
    (case a_need_offset => k_is)
    (case l_need_offset => k_is)
    (case c_need_offset => k_is)
    (case k_need_offset => k_is)
    (case a_need_border => k_is)
    (case l_need_border => k_is)
    (case c_need_border => k_is)
    (case k_need_border => k_is)
    (case a_need_borders => k_is)
    (case l_need_borders => k_is)
    (case c_need_borders => k_is)
    (case k_need_borders => k_is)
    (case a_need_row => k_is)
    (case l_need_row => k_is)
    (case c_need_row => k_is)
    (case k_need_row => k_is)
    (case a_need_rows => k_is)
    (case l_need_rows => k_is)
    (case c_need_rows => k_is)
    (case k_need_rows => k_is)
    (case a_need_number => k_is)
    (case l_need_number => k_is)
    (case c_need_number => k_is)
    (case k_need_number => k_is)
    (case a_width_of => k_is)
    (case l_width_of => k_is)
    (case c_width_of => k_is)
    (case k_width_of => k_is)
    (case a_pieces_of => k_is)
    (case l_pieces_of => k_is)
    (case c_pieces_of => k_is)
    (case k_pieces_of => k_is)
    (case a_row_pieces => k_is)
    (case l_row_pieces => k_is)
    (case c_row_pieces => k_is)
    (case k_row_pieces => k_is)
    (case a_narrowest => k_is)
    (case l_narrowest => k_is)
    (case c_narrowest => k_is)
    (case k_narrowest => k_is)
    (case a_good_of => k_is)
    (case l_good_of => k_is)
    (case c_good_of => k_is)
    (case k_good_of => k_is)
    (case a_widest_of => k_is)
    (case l_widest_of => k_is)
    (case c_widest_of => k_is)
    (case k_widest_of => k_is)
    (case a_widest_least => k_is)
    (case l_widest_least => k_is)
    (case c_widest_least => k_is)
    (case k_widest_least => k_is)
    (case a_best_offsets => k_is)
    (case l_best_offsets => k_is)
    (case c_best_offsets => k_is)
    (case k_best_offsets => k_is)
    (case a_uncut_offsets => k_is)
    (case l_uncut_offsets => k_is)
    (case c_uncut_offsets => k_is)
    (case k_uncut_offsets => k_is)
    (case a_even_offsets => k_is)
    (case l_even_offsets => k_is)
    (case c_even_offsets => k_is)
    (case k_even_offsets => k_is)
    (case a_need_shifts => k_is)
    (case l_need_shifts => k_is)
    (case c_need_shifts => k_is)
    (case k_need_shifts => k_is)
    (case a_narrowest_of => k_is)
    (case l_narrowest_of => k_is)
    (case c_narrowest_of => k_is)
    (case k_narrowest_of => k_is)
    (case a_good_shifted => k_is)
    (case l_good_shifted => k_is)
    (case c_good_shifted => k_is)
    (case k_good_shifted => k_is)
    (case a_widest_shifted => k_is)
    (case l_widest_shifted => k_is)
    (case c_widest_shifted => k_is)
    (case k_widest_shifted => k_is)
    (case a_pairs_of => k_is)
    (case l_pairs_of => k_is)
    (case c_pairs_of => k_is)
    (case k_pairs_of => k_is)
    (case a_needed => k_is)
    (case l_needed => k_is)
    (case c_needed => k_is)
    (case k_needed => k_is)
    (case a_pairs => k_is)
    (case l_pairs => k_is)
    (case c_pairs => k_is)
    (case k_pairs => k_is)
    (case a_tiles_needed => k_is)
    (case l_tiles_needed => k_is)
    (case c_tiles_needed => k_is)
    (case k_tiles_needed => k_is)
    (case a_fewest_tiles => k_is)
    (case l_fewest_tiles => k_is)
    (case c_fewest_tiles => k_is)
    (case k_fewest_tiles => k_is)
    (case a_cheap_offsets => k_is)
    (case l_cheap_offsets => k_is)
    (case c_cheap_offsets => k_is)
    (case k_cheap_offsets => k_is)
    (case a_good_tiles => k_is)
    (case l_good_tiles => k_is)
    (case c_good_tiles => k_is)
    (case k_good_tiles => k_is)
    (case a_free_places => k_is)
    (case l_free_places => k_is)
    (case c_free_places => k_is)
    (case k_free_places => k_is)
    (case a_needless_borders => k_is)
    (case l_needless_borders => k_is)
    (case c_needless_borders => k_is)
    (case k_needless_borders => k_is)
    (case a_is_seen => k_is)
    (case l_is_seen => k_is)
    (case c_is_seen => k_is)
    (case k_is_seen => k_is)
    (case a_need_seen => k_is)
    (case l_need_seen => k_is)
    (case c_need_seen => k_is)
    (case k_need_seen => k_is)
    (case a_offsets_of => k_is)
    (case l_offsets_of => k_is)
    (case c_offsets_of => k_is)
    (case k_offsets_of => k_is)
    (case a_offsets_for => k_is)
    (case l_offsets_for => k_is)
    (case c_offsets_for => k_is)
    (case k_offsets_for => k_is)
    (case a_law_cell_at => k_is)
    (case l_law_cell_at => k_is)
    (case c_law_cell_at => k_is)
    (case k_law_cell_at => k_is)
    (case a_law_draws => k_is)
    (case l_law_draws => k_is)
    (case c_law_draws => k_is)
    (case k_law_draws => k_is)
    (case a_law_bag => k_is)
    (case l_law_bag => k_is)
    (case c_law_bag => k_is)
    (case k_law_bag => k_is)
    (case a_law_bags => k_is)
    (case l_law_bags => k_is)
    (case c_law_bags => k_is)
    (case k_law_bags => k_is)
    (case a_law_take => k_is)
    (case l_law_take => k_is)
    (case c_law_take => k_is)
    (case k_law_take => k_is)
    (case a_law_evens => k_is)
    (case l_law_evens => k_is)
    (case c_law_evens => k_is)
    (case k_law_evens => k_is)
    (case a_law_opposite_right => k_is)
    (case l_law_opposite_right => k_is)
    (case c_law_opposite_right => k_is)
    (case k_law_opposite_right => k_is)
    (case a_law_whole_right => k_is)
    (case l_law_whole_right => k_is)
    (case c_law_whole_right => k_is)
    (case k_law_whole_right => k_is)
    (case a_law => k_is)
    (case l_law => k_is)
    (case c_law => k_is)
    (case k_law => k_is)
    (case q_MAX_JOINT => k_is)
    (case q_MAX_TILE => k_is)
    (case e0_InvalidBorder => k_is)
    (case e0_InvalidKind => k_is)
    (case e0_InvalidNumber => k_is)
    (case e0_InvalidOffset => k_is)
    (case e0_InvalidRow => k_is)
    (case e0_InvalidSeen => k_is)
    (case e0_InvalidSide => k_is)
    (case e1_InvalidBorder => k_exc)
    (case e2_InvalidBorder => k_is)
    (case e3_InvalidBorder => k_is)
    (case e4_InvalidBorder => k_is)
    (case e1_InvalidKind => k_exc)
    (case e2_InvalidKind => k_is)
    (case e3_InvalidKind => k_is)
    (case e4_InvalidKind => k_is)
    (case e1_InvalidNumber => k_exc)
    (case e2_InvalidNumber => k_is)
    (case e3_InvalidNumber => k_is)
    (case e4_InvalidNumber => k_is)
    (case e1_InvalidOffset => k_exc)
    (case e2_InvalidOffset => k_is)
    (case e3_InvalidOffset => k_is)
    (case e4_InvalidOffset => k_is)
    (case e1_InvalidRow => k_exc)
    (case e2_InvalidRow => k_is)
    (case e3_InvalidRow => k_is)
    (case e4_InvalidRow => k_is)
    (case e1_InvalidSeen => k_exc)
    (case e2_InvalidSeen => k_is)
    (case e3_InvalidSeen => k_is)
    (case e4_InvalidSeen => k_is)
    (case e1_InvalidSide => k_exc)
    (case e2_InvalidSide => k_is)
    (case e3_InvalidSide => k_is)
    (case e4_InvalidSide => k_is)
    (case z_all => k_is)
    (case z_bool => k_is)
    (case z_enumerate => k_is)
    (case z_int => k_is)
    (case z_isinstance => k_is)
    (case z_len => k_is)
    (case z_max => k_is)
    (case z_min => k_is)
    (case z_range => k_is)
    (case z_sorted => k_is)
    (case z_str => k_is)
    (case z_sum => k_is)
    (case z_tuple => k_is)
    (case s1 => k_is)
    (case s2 => k_is)
    (case s3 => k_is)
    (case s4 => k_is)
    (case s5 => k_is)
    (case s6 => k_is)
    (case s7 => k_is)
    (case s8 => k_is)
    (case s9 => k_is)
    (case s10 => k_is)
    (case s11 => k_is)
    (case s12 => k_is)
    (case s13 => k_is)
    (case s14 => k_is)
    (case s15 => k_is)
    (case s16 => k_is)
    (case s17 => exact ⟨_, rfl⟩)
    (case s18 => k_is)
    (case s19 => k_is)
    (case s20 => k_is)
    (case s21 => k_is)
    (case s22 => k_is)
    (case s23 => k_is)
    (case s24 => k_is)
    (case s25 => k_is)
    (case s26 => k_is)
    (case s27 => k_is)
    (case s28 => k_is)
    (case s29 => k_is)
    (case s30 => k_is)
    (case s31 => k_is)
    (case s32 => k_is)
    (case s33 => k_is)
    (case s34 => k_is)
    (case s35 => k_is)
    (case s36 => k_is)
    (case s37 => k_is)
    (case s38 => k_is)
    (case s39 => k_is)


