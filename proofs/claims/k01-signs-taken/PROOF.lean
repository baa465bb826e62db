import PyProof.Rows.All
import Wide.All
import OpenK.AllK
import Wide.FinOn
import HandS.ForMost
import HandS.Exc
import HandS.TryOnly
import HandS.ExcOwn
import HandS.WordsExc
import HandS.IsInst
import HandS.Wide
import HandS.Conv
import HandS.TupAny
import HandS.Rev
import HandS.TryMany
import HandS.ExcIs
import HandS.Style
import HandS.Head0
import HandS.Head1
import HandS.Head2
import HandS.HeadEnd
import HandS.HeadHook1
import HandS.HeadHook2
import PySem.Challenge.RW_grammarpack_k01_signs_taken
set_option Elab.async false
set_option linter.all false
set_option maxRecDepth 100000
set_option maxHeartbeats 4000000
namespace G
open PySem PySem.Spec PyProof.Rows L2

/-! ### data -/
inductive Dt where
  | non | bl (b : Bool) | int (i : Int) | str (s : Str) | ref (a : Addr) | ty (n : String) | lst (ds : List Dt) | tup (ds : List Dt)
mutual
inductive Rep (F : Hp) : V → Dt → Prop
  | non : Rep F .non .non
  | bl (b : Bool) : Rep F (.bl b) (.bl b)
  | int (i : Int) : Rep F (.int i) (.int i)
  | str (x : Str) : Rep F (.str x) (.str x)
  | ref (a : Addr) : Rep F (.ref a) (.ref a)
  | ty (n : String) : Rep F (.ty n) (.ty n)
  | lst {a : Addr} {xs : List V} {ds : List Dt} : F a = some (.lst xs) → RepA F xs ds → Rep F (.ref a) (.lst ds)
  | tup {a : Addr} {xs : List V} {ds : List Dt} : F a = some (.tup xs) → RepA F xs ds → Rep F (.ref a) (.tup ds)
inductive RepA (F : Hp) : List V → List Dt → Prop
  | nil : RepA F [] []
  | cons {v : V} {vs : List V} {d : Dt} {ds : List Dt} : Rep F v d → RepA F vs ds → RepA F (v :: vs) (d :: ds)
end
mutual
theorem Rep.mono {F F' : Hp} (s : Same F F') : ∀ {v : V} {d : Dt}, Rep F v d → Rep F' v d
  | _, _, .non => .non
  | _, _, .bl b => .bl b
  | _, _, .int i => .int i
  | _, _, .str x => .str x
  | _, _, .ref a => .ref a
  | _, _, .ty n => .ty n
  | _, _, .lst h r => .lst (s _ _ h) (RepA.mono s r)
  | _, _, .tup h r => .tup (s _ _ h) (RepA.mono s r)
theorem RepA.mono {F F' : Hp} (s : Same F F') : ∀ {vs : List V} {ds : List Dt}, RepA F vs ds → RepA F' vs ds
  | _, _, .nil => .nil
  | _, _, .cons h r => .cons (Rep.mono s h) (RepA.mono s r)
end
theorem RepA.length {F : Hp} : ∀ {vs : List V} {ds : List Dt}, RepA F vs ds → vs.length = ds.length
  | _, _, .nil => rfl
  | _, _, .cons _ r => congrArg (· + 1) (RepA.length r)
theorem RepA.get {F : Hp} : ∀ {vs : List V} {ds : List Dt} {i : Nat} {d : Dt}, RepA F vs ds → ds[i]? = some d → ∃ v, vs[i]? = some v ∧ Rep F v d
  | _, _, _, _, .nil, h => by simp at h
  | _, _, 0, _, .cons r _, h => by simp at h; subst h; exact ⟨_, rfl, r⟩
  | _, _, i + 1, _, .cons _ r, h => by simpa using RepA.get (i := i) r (by simpa using h)
theorem RepA.get' {F : Hp} : ∀ {vs : List V} {ds : List Dt} {i : Nat} {v : V}, RepA F vs ds → vs[i]? = some v → ∃ d, ds[i]? = some d ∧ Rep F v d
  | _, _, _, _, .nil, h => by simp at h
  | _, _, 0, _, .cons r _, h => by simp at h; subst h; exact ⟨_, rfl, r⟩
  | _, _, i + 1, _, .cons _ r, h => by simpa using RepA.get' (i := i) r (by simpa using h)
theorem RepA.append {F : Hp} : ∀ {vs ws : List V} {ds es : List Dt}, RepA F vs ds → RepA F ws es → RepA F (vs ++ ws) (ds ++ es)
  | _, _, _, _, .nil, s => s
  | _, _, _, _, .cons h r, s => .cons h (RepA.append r s)
theorem RepA.take {F : Hp} : ∀ (n : Nat) {vs : List V} {ds : List Dt}, RepA F vs ds → RepA F (vs.take n) (ds.take n)
  | 0, _, _, _ => .nil
  | _ + 1, _, _, .nil => .nil
  | n + 1, _, _, .cons h r => .cons h (RepA.take n r)
theorem RepA.drop {F : Hp} : ∀ (n : Nat) {vs : List V} {ds : List Dt}, RepA F vs ds → RepA F (vs.drop n) (ds.drop n)
  | 0, _, _, r => r
  | _ + 1, _, _, .nil => .nil
  | n + 1, _, _, .cons _ r => RepA.drop n r
theorem RepA.reverse {F : Hp} : ∀ {vs : List V} {ds : List Dt}, RepA F vs ds → RepA F vs.reverse ds.reverse
  | _, _, .nil => .nil
  | _, _, .cons h r => by
    rw [List.reverse_cons, List.reverse_cons]
    exact (RepA.reverse r).append (.cons h .nil)
theorem RepA.dropLast {F : Hp} {vs : List V} {ds : List Dt} (r : RepA F vs ds) : RepA F vs.dropLast ds.dropLast := by
  rw [List.dropLast_eq_take, List.dropLast_eq_take, r.length]
  exact r.take _
theorem RepA.set {F : Hp} {v : V} {d : Dt} (h : Rep F v d) : ∀ (i : Nat) {vs : List V} {ds : List Dt}, RepA F vs ds → RepA F (vs.set i v) (ds.set i d)
  | _, _, _, .nil => .nil
  | 0, _, _, .cons _ t => .cons h t
  | i + 1, _, _, .cons q t => .cons q (RepA.set h i t)
theorem RepA.ints {F : Hp} : ∀ {vs : List V} (ns : List Int), RepA F vs (ns.map Dt.int) → vs = ns.map V.int
  | _, [], .nil => rfl
  | _, n :: ns, .cons h r => by cases h; rw [RepA.ints ns r]; rfl
theorem RepA.strs {F : Hp} : ∀ {vs : List V} (ns : List Str), RepA F vs (ns.map Dt.str) → vs = ns.map V.str
  | _, [], .nil => rfl
  | _, n :: ns, .cons h r => by cases h; rw [RepA.strs ns r]; rfl
theorem RepA.bls {F : Hp} : ∀ {vs : List V} (ns : List Bool), RepA F vs (ns.map Dt.bl) → vs = ns.map V.bl
  | _, [], .nil => rfl
  | _, n :: ns, .cons h r => by cases h; rw [RepA.bls ns r]; rfl
theorem RepA.ofInts {F : Hp} : ∀ (ns : List Int), RepA F (ns.map V.int) (ns.map Dt.int)
  | [] => .nil
  | n :: ns => .cons (.int n) (RepA.ofInts ns)
theorem RepA.ofStrs {F : Hp} : ∀ (ns : List Str), RepA F (ns.map V.str) (ns.map Dt.str)
  | [] => .nil
  | n :: ns => .cons (.str n) (RepA.ofStrs ns)
theorem Rep.int_v {F : Hp} {v : V} {i : Int} (h : Rep F v (.int i)) : v = .int i := by cases h; rfl
theorem Rep.str_v {F : Hp} {v : V} {i : Str} (h : Rep F v (.str i)) : v = .str i := by cases h; rfl
theorem Rep.bl_v {F : Hp} {v : V} {i : Bool} (h : Rep F v (.bl i)) : v = .bl i := by cases h; rfl
theorem Rep.non_v {F : Hp} {v : V} (h : Rep F v .non) : v = .non := by cases h; rfl
theorem Rep.ref_v {F : Hp} {v : V} {a : Addr} (h : Rep F v (.ref a)) : v = .ref a := by cases h; rfl
theorem Rep.ty_v {F : Hp} {v : V} {n : String} (h : Rep F v (.ty n)) : v = .ty n := by cases h; rfl

/-! ### what is known, what stands -/
/-- the knowledge F of the heap H grows to F' of H'; the new of F' was not in H -/
structure Ext (F H F' H' : Hp) : Prop where
  ff : Same F F'
  hh : Same H H'
  sub : Same F' H'
  new : ∀ a, H a ≠ none → F' a = F a
theorem Ext.refl {F H : Hp} (s : Same F H) : Ext F H F H := ⟨Same.refl _, Same.refl _, s, fun _ _ => rfl⟩
theorem Ext.trans {F H F1 H1 F2 H2 : Hp} (a : Ext F H F1 H1) (b : Ext F1 H1 F2 H2) : Ext F H F2 H2 :=
  ⟨a.ff.trans b.ff, a.hh.trans b.hh, b.sub, fun x h => by
    rw [b.new x (fun e => ?_), a.new x h]
    cases q : H x with
    | none => exact h q
    | some o => rw [a.hh _ _ q] at e; cases e⟩
/-- a new object, known -/
theorem Ext.mk1 {F H : Hp} {p : Addr} (s : Same F H) (hp : H p = none) (o : HO) : Ext F H (upd F p o) (upd H p o) where
  ff := fun b u e => by rw [upd_ne (ne_of_none e (s.free hp))]; exact e
  hh := fun b u e => by rw [upd_ne (ne_of_none e hp)]; exact e
  sub := fun b u e => by
    by_cases hb : b = p
    · subst hb; rw [upd_same] at e ⊢; exact e
    · rw [upd_ne hb] at e ⊢; exact s _ _ e
  new := fun a h => by rw [upd_ne (fun e => h (by rw [e]; exact hp))]
/-- a new object, not known -/
theorem Ext.mk0 {F H : Hp} {p : Addr} (s : Same F H) (hp : H p = none) (o : HO) : Ext F H F (upd H p o) where
  ff := Same.refl _
  hh := fun b u e => by rw [upd_ne (ne_of_none e hp)]; exact e
  sub := fun b u e => by rw [upd_ne (ne_of_none (s _ _ e) hp)]; exact s _ _ e
  new := fun a h => rfl
/-- what is not known may change -/
theorem Same.mut {F H : Hp} {p : Addr} (s : Same F H) (hp : F p = none) (o : HO) : Same F (upd H p o) := fun b u e => by
  rw [upd_ne (ne_of_none e hp)]; exact s _ _ e

abbrev Sl := List (Option Dt)
/-- slots by data -/
structure Ctx (F H : Hp) (σ : L2.St) (δ : Sl) : Prop where
  sub : Same F H
  slot : ∀ (i : Nat) (d : Dt), δ[i]? = some (some d) → ∃ v, σ[i]? = some (some v) ∧ Rep F v d
theorem Ctx.ext {F H F' H' : Hp} {σ : L2.St} {δ : Sl} (c : Ctx F H σ δ) (e : Ext F H F' H') : Ctx F' H' σ δ :=
  ⟨e.sub, fun i d h => let ⟨v, h1, h2⟩ := c.slot i d h; ⟨v, h1, h2.mono e.ff⟩⟩
theorem Ctx.know {F H F' : Hp} {σ : L2.St} {δ : Sl} (c : Ctx F H σ δ) (e : Same F F') (s : Same F' H) : Ctx F' H σ δ :=
  ⟨s, fun i d h => let ⟨v, h1, h2⟩ := c.slot i d h; ⟨v, h1, h2.mono e⟩⟩
theorem Ctx.heap {F H H' : Hp} {σ : L2.St} {δ : Sl} (c : Ctx F H σ δ) (s : Same F H') : Ctx F H' σ δ := ⟨s, c.slot⟩
def Wk (δ δ' : Sl) : Prop := ∀ (i : Nat) (d : Dt), δ'[i]? = some (some d) → δ[i]? = some (some d)
theorem Wk.refl (δ : Sl) : Wk δ δ := fun _ _ h => h
theorem Wk.trans {a b c : Sl} (x : Wk a b) (y : Wk b c) : Wk a c := fun i d h => x i d (y i d h)
theorem Ctx.wk {F H : Hp} {σ : L2.St} {δ δ' : Sl} (c : Ctx F H σ δ) (w : Wk δ δ') : Ctx F H σ δ' := ⟨c.sub, fun i d h => c.slot i d (w i d h)⟩
theorem Wk.nil {δ : Sl} : Wk δ [] := fun i d h => by simp at h
theorem Wk.cons {a : Option Dt} {δ δ' : Sl} (h : Wk δ δ') : Wk (a :: δ) (a :: δ') := fun i d q => by
  cases i with
  | zero => simpa using q
  | succ i => simpa using h i d (by simpa using q)
theorem Wk.consN {a : Option Dt} {δ δ' : Sl} (h : Wk δ δ') : Wk (a :: δ) (none :: δ') := fun i d q => by
  cases i with
  | zero => simp at q
  | succ i => simpa using h i d (by simpa using q)
theorem Ctx.set {F H : Hp} {σ : L2.St} {δ : Sl} {v : V} {d : Dt} (c : Ctx F H σ δ) (hl : δ.length ≤ σ.length) (i : Nat) (r : Rep F v d) : Ctx F H (σ.set i (some v)) (δ.set i (some d)) := by
  refine ⟨c.sub, fun j d' h => ?_⟩
  by_cases e : i = j
  · subst e
    by_cases hi : i < δ.length
    · rw [List.getElem?_set_self hi] at h
      cases h
      exact ⟨v, List.getElem?_set_self (by omega), r⟩
    · rw [List.getElem?_eq_none (by rw [List.length_set]; omega)] at h
      cases h
  · rw [List.getElem?_set_ne e] at h ⊢
    exact c.slot j d' h

/-! ### the judgements by their meaning -/
def WE (X : Cx) (e : Expr) : TE := fun σ H Q => ∀ pins s, Inv X pins σ H s → wpAny (model X.prog X.w) X.A (eval e X.env) (EP X pins σ Q) X.xe s
def WT (X : Cx) (e : Expr) : TT := fun σ H Q => ∀ pins s, Inv X pins σ H s → wpAny (model X.prog X.w) X.A (isTrue e X.env (eval e X.env)) (TP X pins σ Q) X.xe s
def WA (X : Cx) (es : List Expr) : TA := fun σ H Q => ∀ pos pins s, Inv X pins σ H s → wpAny (model X.prog X.w) X.A (spliced (backTo pos (starEach es X.env))) (AP X pins σ Q) X.xe s
def WS (X : Cx) (st : Stmt) : TS := fun D σ H => ∀ pins s, Inv X pins σ H s → wpAny (model X.prog X.w) X.A (exec st X.env) (SP X pins D) X.xe s
def WSs (X : Cx) (st : List Stmt) : TS := fun D σ H => ∀ pins s, Inv X pins σ H s → wpAny (model X.prog X.w) X.A (execs st X.env) (SP X pins D) X.xe s
def WG (X : Cx) (tg : Expr) : TG := fun v σ H Q => ∀ pins s u, Inv X pins σ H s → RelV v u → wpAny (model X.prog X.w) X.A (assign tg X.env u) (fun _ s' => ∃ σ' H', Inv X pins σ' H' s' ∧ Q σ' H') X.xe s
theorem pe {X : Cx} {e : Expr} : PE X e (WE X e) := ⟨fun pins s _ _ _ I h => h pins s I⟩
theorem pt {X : Cx} {e : Expr} : PT X e (WT X e) := ⟨fun pins s _ _ _ I h => h pins s I⟩
theorem pa {X : Cx} {es : List Expr} : PA X es (WA X es) := ⟨fun pos pins s _ _ _ I h => h pos pins s I⟩
theorem ps {X : Cx} {st : Stmt} : PS X st (WS X st) := ⟨fun pins s _ _ _ I h => h pins s I⟩
theorem pss {X : Cx} {st : List Stmt} : PSs X st (WSs X st) := ⟨fun pins s _ _ _ I h => h pins s I⟩
theorem pg {X : Cx} {tg : Expr} : PG X tg (WG X tg) := ⟨fun pins s _ _ _ u _ I r h => h pins s u I r⟩
section
variable {X : Cx}
theorem we {e : Expr} {t : TE} (h : PE X e t) {σ : L2.St} {H : Hp} {Q : VK} (q : t σ H Q) : WE X e σ H Q := fun pins s I => h.run pins s σ H Q I q
theorem wt {e : Expr} {t : TT} (h : PT X e t) {σ : L2.St} {H : Hp} {Q : Bool → Hp → Prop} (q : t σ H Q) : WT X e σ H Q := fun pins s I => h.run pins s σ H Q I q
theorem wa {es : List Expr} {t : TA} (h : PA X es t) {σ : L2.St} {H : Hp} {Q : List V → Hp → Prop} (q : t σ H Q) : WA X es σ H Q := fun pos pins s I => h.run pos pins s σ H Q I q
theorem ws {st : Stmt} {t : TS} (h : PS X st t) {σ : L2.St} {H : Hp} {D : Ends} (q : t D σ H) : WS X st D σ H := fun pins s I => h.run pins s σ H D I q
theorem wss {st : List Stmt} {t : TS} (h : PSs X st t) {σ : L2.St} {H : Hp} {D : Ends} (q : t D σ H) : WSs X st D σ H := fun pins s I => h.run pins s σ H D I q
theorem wg {tg : Expr} {t : TG} (h : PG X tg t) {v : V} {σ : L2.St} {H : Hp} {Q : L2.St → Hp → Prop} (q : t v σ H Q) : WG X tg v σ H Q := fun pins s u I r => h.run pins s σ H v u Q I r q
theorem WE.mono {e : Expr} {σ : L2.St} {H : Hp} {Q Q' : VK} (h : WE X e σ H Q) (m : ∀ v H', Q v H' → Q' v H') : WE X e σ H Q' :=
  fun pins s I => thn (h pins s I) fun _ _ ⟨v, H', J, r, q⟩ => ⟨v, H', J, r, m v H' q⟩
theorem WSs.len {st : List Stmt} {D : Ends} {σ : L2.St} {H : Hp} (h : σ.length = X.N.length → WSs X st D σ H) : WSs X st D σ H := fun pins s I => h I.len pins s I
theorem WS.len {st : Stmt} {D : Ends} {σ : L2.St} {H : Hp} (h : σ.length = X.N.length → WS X st D σ H) : WS X st D σ H := fun pins s I => h I.len pins s I
theorem WG.len {tg : Expr} {v : V} {σ : L2.St} {H : Hp} {Q : L2.St → Hp → Prop} (h : σ.length = X.N.length → WG X tg v σ H Q) : WG X tg v σ H Q := fun pins s u I r => h I.len pins s u I r

/-! ### what evaluates to what -/
def EvD (X : Cx) (F : Hp) (e : Expr) (δ : Sl) (d : Dt) : Prop := ∀ (F1 H : Hp) (σ : L2.St) (Q : VK), Same F F1 → Ctx F1 H σ δ → (∀ v F' H', Ext F1 H F' H' → Rep F' v d → Q v H') → WE X e σ H Q
def EtD (X : Cx) (F : Hp) (e : Expr) (δ : Sl) (b : Bool) : Prop := ∀ (F1 H : Hp) (σ : L2.St) (Q : Bool → Hp → Prop), Same F F1 → Ctx F1 H σ δ → (∀ F' H', Ext F1 H F' H' → Q b H') → WT X e σ H Q
def EaD (X : Cx) (F : Hp) (es : List Expr) (δ : Sl) (ds : List Dt) : Prop := ∀ (F1 H : Hp) (σ : L2.St) (Q : List V → Hp → Prop), Same F F1 → Ctx F1 H σ δ → (∀ vs F' H', Ext F1 H F' H' → RepA F' vs ds → Q vs H') → WA X es σ H Q
/-- an operation on values, by data -/
def RD (F : Hp) (r : R2) (x y z : Dt) : Prop := ∀ (F1 H : Hp) (vx vy : V) (Q : VK), Same F F1 → Same F1 H → Rep F1 vx x → Rep F1 vy y → (∀ v F' H', Ext F1 H F' H' → Rep F' v z → Q v H') → r vx vy H Q
def RC (F : Hp) (r : List V → Hp → VK → Prop) (xs : List Dt) (z : Dt) : Prop := ∀ (F1 H : Hp) (vs : List V) (Q : VK), Same F F1 → Same F1 H → RepA F1 vs xs → (∀ v F' H', Ext F1 H F' H' → Rep F' v z → Q v H') → r vs H Q
variable {F : Hp} {δ : Sl} {e a b : Expr} {es : List Expr} {d x y z : Dt} {ds : List Dt}
theorem EvD.know {F' : Hp} (h : EvD X F e δ d) (s : Same F F') : EvD X F' e δ d := fun F1 H σ Q s1 => h F1 H σ Q (s.trans s1)
theorem EtD.know {F' : Hp} {k : Bool} (h : EtD X F e δ k) (s : Same F F') : EtD X F' e δ k := fun F1 H σ Q s1 => h F1 H σ Q (s.trans s1)
theorem EvD.to {d' : Dt} (h : EvD X F e δ d) (q : d = d') : EvD X F e δ d' := q ▸ h
theorem EtD.to {k k' : Bool} (h : EtD X F e δ k) (q : k = k') : EtD X F e δ k' := q ▸ h

theorem d_v (i : Nat) {n : Str} {pos : Pos} (h : δ[i]? = some (some d)) (hN : X.N[i]? = some n := by rfl) (hv : Vis X.env.scope n := by first | exact Or.inl rfl | exact Or.inr (Or.inl rfl) | exact Or.inr (Or.inr rfl)) (hd : (n == ("__debug__" : Str)) = false := by decide)
    (hcd : (n == ("__classdict__" : Str)) = false := by decide) : EvD X F (.Name n pos) δ d := fun F1 H σ Q _ c k => by
  obtain ⟨v, h1, h2⟩ := c.slot i d h
  exact we (pe_var hN hv hd hcd) ⟨v, h1, k v F1 H (.refl c.sub) h2⟩
theorem d_int {i : Int} {j pos} : EvD X F (.Constant (.int i) j pos) δ (.int i) := fun F1 H σ Q _ c k => we pe_int (k _ F1 H (.refl c.sub) (.int i))
theorem d_bl {i : Bool} {j pos} : EvD X F (.Constant (.bool i) j pos) δ (.bl i) := fun F1 H σ Q _ c k => we pe_bl (k _ F1 H (.refl c.sub) (.bl i))
theorem d_non {j pos} : EvD X F (.Constant .none j pos) δ .non := fun F1 H σ Q _ c k => we pe_non (k _ F1 H (.refl c.sub) .non)
theorem d_str {i : Str} {j pos} : EvD X F (.Constant (.str i) j pos) δ (.str i) := fun F1 H σ Q _ c k => we pe_str (k _ F1 H (.refl c.sub) (.str i))
theorem d_gstr {n : Str} {t : Tok} {s : Str} {pos : Pos} (hm : X.mg n = some (.str s t)) (hg : Gl X n := by rfl) (hd : (n == ("__debug__" : Str)) = false := by decide) : EvD X F (.Name n pos) δ (.str s) :=
  fun F1 H σ Q _ c k => we (pe_glob (v := .str s) hg hm ⟨t, rfl⟩ hd) (k _ F1 H (.refl c.sub) (.str s))
theorem d_gint {n : Str} {t : Tok} {s : Int} {pos : Pos} (hm : X.mg n = some (.int s t)) (hg : Gl X n := by rfl) (hd : (n == ("__debug__" : Str)) = false := by decide) : EvD X F (.Name n pos) δ (.int s) :=
  fun F1 H σ Q _ c k => we (pe_glob (v := .int s) hg hm ⟨t, rfl⟩ hd) (k _ F1 H (.refl c.sub) (.int s))

/-! arguments -/
theorem a_nil : EaD X F [] δ [] := fun F1 H σ Q _ c k => wa pa_nil (k [] F1 H (.refl c.sub) .nil)
theorem a_cons (h : EvD X F e δ d) (hr : EaD X F es δ ds) (hs : starEach (e :: es) X.env = (false, eval e X.env) :: starEach es X.env := by rfl) : EaD X F (e :: es) δ (d :: ds) := fun F1 H σ Q s c k =>
  wa (pa_cons pe pa hs) (h F1 H σ _ s c fun v F2 H2 e2 r2 => hr F2 H2 σ _ (s.trans e2.ff) (c.ext e2) fun vs F3 H3 e3 r3 => k _ F3 H3 (e2.trans e3) (.cons (r2.mono e3.ff) r3))
theorem d_tup {x1} {pos : Pos} (h : EaD X F es δ ds) (hz : ds.length ≤ 1000 := by first | decide | (simp only [List.length_cons, List.length_nil]; omega)) : EvD X F (.Tuple es x1 pos) δ (.tup ds) := fun F1 H σ Q s c k =>
  we (pe_tup pa) (h F1 H σ _ s c fun vs F2 H2 e2 r2 => ⟨by rw [r2.length]; exact Nat.le_of_lt (small1000 hz), fun p hp =>
    k _ _ _ (e2.trans (.mk1 e2.sub hp (.tup vs))) (.tup upd_same (r2.mono (Ext.mk1 e2.sub hp (.tup vs)).ff))⟩)
theorem d_lst {pos : Pos} (h : EaD X F es δ ds) (hz : ds.length ≤ 1000 := by first | decide | (simp only [List.length_cons, List.length_nil]; omega)) : EvD X F (.List es pos) δ (.lst ds) := fun F1 H σ Q s c k =>
  we (pe_lst pa) (h F1 H σ _ s c fun vs F2 H2 e2 r2 => ⟨by rw [r2.length]; exact Nat.le_of_lt (small1000 hz), fun p hp =>
    k _ _ _ (e2.trans (.mk1 e2.sub hp (.lst vs))) (.lst upd_same (r2.mono (Ext.mk1 e2.sub hp (.lst vs)).ff))⟩)

/-! operators -/
theorem d_op {op : Operator} {r : R2} {pos : Pos} (ho : OpR X (binaryOp op) r) (ha : EvD X F a δ x) (hb : EvD X F b δ y) (hr : RD F r x y z) : EvD X F (.BinOp a op b pos) δ z := fun F1 H σ Q s c k =>
  we (pe_op ho pe pe) (ha F1 H σ _ s c fun v F2 H2 e2 r2 => hb F2 H2 σ _ (s.trans e2.ff) (c.ext e2) fun u F3 H3 e3 r3 =>
    hr F3 H3 v u Q ((s.trans e2.ff).trans e3.ff) e3.sub (r2.mono e3.ff) r3 fun w F4 H4 e4 r4 => k w F4 H4 ((e2.trans e3).trans e4) r4)
theorem d_cmp {op : CmpOp} {r : R2} {pos : Pos} (ho : OpR X (compareOp op) r) (ha : EvD X F a δ x) (hb : EvD X F b δ y) (hr : RD F r x y z) (hm : behindInMarks op b = false := by first | exact nomark _ | rfl) : EvD X F (.Compare a [op] [b] pos) δ z := fun F1 H σ Q s c k =>
  we (pe_cmpR ho pe pe hm) (ha F1 H σ _ s c fun v F2 H2 e2 r2 => hb F2 H2 σ _ (s.trans e2.ff) (c.ext e2) fun u F3 H3 e3 r3 =>
    hr F3 H3 v u Q ((s.trans e2.ff).trans e3.ff) e3.sub (r2.mono e3.ff) r3 fun w F4 H4 e4 r4 => k w F4 H4 ((e2.trans e3).trans e4) r4)
theorem d_ixR {r : R2} {pos : Pos} (ho : IxR X r) (ha : EvD X F a δ x) (hb : EvD X F b δ y) (hr : RD F r x y z) (hs : PlainIx b) : EvD X F (.Subscript a b pos) δ z := fun F1 H σ Q s c k =>
  we (pe_ix ho pe pe hs) (ha F1 H σ _ s c fun v F2 H2 e2 r2 => hb F2 H2 σ _ (s.trans e2.ff) (c.ext e2) fun u F3 H3 e3 r3 =>
    hr F3 H3 v u Q ((s.trans e2.ff).trans e3.ff) e3.sub (r2.mono e3.ff) r3 fun w F4 H4 e4 r4 => k w F4 H4 ((e2.trans e3).trans e4) r4)
theorem rd_I0 {g : Int → Int → V} {i j : Int} (hz : ∀ F, Rep F (g i j) z) : RD F (rI0 g) (.int i) (.int j) z := fun F1 H vx vy Q s s1 rx ry k => by
  cases rx; cases ry
  exact ⟨i, j, rfl, rfl, k _ F1 H (.refl s1) (hz _)⟩
theorem rd_I {C : Int → Int → Prop} {g : Int → Int → V} {i j : Int} (hc : C i j) (hz : ∀ F, Rep F (g i j) z) : RD F (rI C g) (.int i) (.int j) z := fun F1 H vx vy Q s s1 rx ry k => by
  cases rx; cases ry
  exact ⟨i, j, rfl, rfl, hc, k _ F1 H (.refl s1) (hz _)⟩
section
variable {i j : Int} {pos : Pos}
theorem d_add (ha : EvD X F a δ (.int i)) (hb : EvD X F b δ (.int j)) : EvD X F (.BinOp a .Add b pos) δ (.int (i + j)) := d_op op_add ha hb (rd_I0 fun _ => .int _)
theorem d_sub (ha : EvD X F a δ (.int i)) (hb : EvD X F b δ (.int j)) : EvD X F (.BinOp a .Sub b pos) δ (.int (i - j)) := d_op op_sub ha hb (rd_I0 fun _ => .int _)
theorem d_mul (ha : EvD X F a δ (.int i)) (hb : EvD X F b δ (.int j)) (h : CMul i j) : EvD X F (.BinOp a .Mult b pos) δ (.int (i * j)) := d_op op_mul ha hb (rd_I h fun _ => .int _)
theorem d_mod (ha : EvD X F a δ (.int i)) (hb : EvD X F b δ (.int j)) (h : 0 < j) : EvD X F (.BinOp a .Mod b pos) δ (.int (i % j)) := d_op op_mod ha hb (rd_I h fun _ => .int _)
theorem d_fdiv (ha : EvD X F a δ (.int i)) (hb : EvD X F b δ (.int j)) (h : CDiv i j) : EvD X F (.BinOp a .FloorDiv b pos) δ (.int (i / j)) := d_op op_fdiv ha hb (rd_I h fun _ => .int _)
theorem d_lt (ha : EvD X F a δ (.int i)) (hb : EvD X F b δ (.int j)) : EvD X F (.Compare a [.Lt] [b] pos) δ (.bl (decide (i < j))) := d_cmp op_lt ha hb (rd_I0 fun _ => .bl _)
theorem d_le (ha : EvD X F a δ (.int i)) (hb : EvD X F b δ (.int j)) : EvD X F (.Compare a [.LtE] [b] pos) δ (.bl (decide (i ≤ j))) := d_cmp op_le ha hb (rd_I0 fun _ => .bl _)
theorem d_gt (ha : EvD X F a δ (.int i)) (hb : EvD X F b δ (.int j)) : EvD X F (.Compare a [.Gt] [b] pos) δ (.bl (decide (j < i))) := d_cmp op_gt ha hb (rd_I0 fun _ => .bl _)
theorem d_ge (ha : EvD X F a δ (.int i)) (hb : EvD X F b δ (.int j)) : EvD X F (.Compare a [.GtE] [b] pos) δ (.bl (decide (j ≤ i))) := d_cmp op_ge ha hb (rd_I0 fun _ => .bl _)
end
/-- the scalars that == tells apart -/
def scD : Dt → Dt → Bool
  | .non, .non => true | .non, .int _ => true | .int _, .non => true | .non, .bl _ => true | .bl _, .non => true | .non, .str _ => true | .str _, .non => true
  | .int _, .int _ => true | .bl _, .bl _ => true | .str _, .str _ => true
  | .int _, .str _ => true | .str _, .int _ => true | .bl _, .str _ => true | .str _, .bl _ => true
  | _, _ => false
def sameD : Dt → Dt → Bool
  | .non, .non => true
  | .int i, .int j => decide (i = j)
  | .bl i, .bl j => decide (i = j)
  | .str i, .str j => decide (i = j)
  | _, _ => false
theorem sc_of {F : Hp} {v u : V} (h : scD x y = true) (r : Rep F v x) (q : Rep F u y) : scal v u = true ∧ decide (v = u) = sameD x y := by
  cases r <;> cases q <;> first | (cases h; done) | (refine ⟨rfl, ?_⟩; simp [sameD])
theorem rd_eq (h : scD x y = true) : RD F rEq x y (.bl (sameD x y)) := fun F1 H vx vy Q s s1 rx ry k => by
  obtain ⟨h1, h2⟩ := sc_of h rx ry
  exact ⟨h1, k _ F1 H (.refl s1) (by rw [h2]; exact .bl _)⟩
theorem rd_ne (h : scD x y = true) : RD F rNe x y (.bl (!sameD x y)) := fun F1 H vx vy Q s s1 rx ry k => by
  obtain ⟨h1, h2⟩ := sc_of h rx ry
  exact ⟨h1, k _ F1 H (.refl s1) (by rw [h2]; exact .bl _)⟩
theorem d_eq {pos : Pos} (ha : EvD X F a δ x) (hb : EvD X F b δ y) (h : scD x y = true := by rfl) : EvD X F (.Compare a [.Eq] [b] pos) δ (.bl (sameD x y)) := d_cmp op_eq ha hb (rd_eq h)
theorem d_ne {pos : Pos} (ha : EvD X F a δ x) (hb : EvD X F b δ y) (h : scD x y = true := by rfl) : EvD X F (.Compare a [.NotEq] [b] pos) δ (.bl (!sameD x y)) := d_cmp op_ne ha hb (rd_ne h)
theorem d_isN {pos : Pos} {j p} (ha : EvD X F a δ x) {k : Bool} (hk : ∀ F v, Rep F v x → decide (v = .non) = k) : EvD X F (.Compare a [.Is] [.Constant .none j p] pos) δ (.bl k) := fun F1 H σ Q s c q =>
  we (pe_cmp (pc_isN pe)) (ha F1 H σ _ s c fun v F2 H2 e2 r2 => q _ F2 H2 e2 (by rw [hk F2 v r2]; exact .bl _))
theorem d_notN {pos : Pos} {j p} (ha : EvD X F a δ x) {k : Bool} (hk : ∀ F v, Rep F v x → decide (v = .non) = k) : EvD X F (.Compare a [.IsNot] [.Constant .none j p] pos) δ (.bl (!k)) := fun F1 H σ Q s c q =>
  we (pe_cmp (pc_notN pe)) (ha F1 H σ _ s c fun v F2 H2 e2 r2 => q _ F2 H2 e2 (by rw [hk F2 v r2]; exact .bl _))

/-! texts -/
section
variable {i j : Str} {pos : Pos}
theorem d_adds (ha : EvD X F a δ (.str i)) (hb : EvD X F b δ (.str j)) (h : i.length + j.length ≤ sizeLine) : EvD X F (.BinOp a .Add b pos) δ (.str (i ++ j)) := d_op op_add_str ha hb fun F1 H vx vy Q s s1 rx ry k => by
  cases rx; cases ry
  exact ⟨i, j, rfl, rfl, h, k _ F1 H (.refl s1) (.str _)⟩
theorem d_ltS (ha : EvD X F a δ (.str i)) (hb : EvD X F b δ (.str j)) : EvD X F (.Compare a [.Lt] [b] pos) δ (.bl (decide (i.cps.toList < j.cps.toList))) := d_cmp op_lt_str ha hb fun F1 H vx vy Q s s1 rx ry k => by
  cases rx; cases ry
  exact ⟨i, j, rfl, rfl, k _ F1 H (.refl s1) (.bl _)⟩
theorem d_leS (ha : EvD X F a δ (.str i)) (hb : EvD X F b δ (.str j)) : EvD X F (.Compare a [.LtE] [b] pos) δ (.bl (!decide (j.cps.toList < i.cps.toList))) := d_cmp op_le_str ha hb fun F1 H vx vy Q s s1 rx ry k => by
  cases rx; cases ry
  exact ⟨i, j, rfl, rfl, k _ F1 H (.refl s1) (.bl _)⟩
theorem d_inS {c : Nat} (ha : EvD X F a δ (.str ⟨#[c]⟩)) (hb : EvD X F b δ (.str j)) (hm : behindInMarks .In b = false := by rfl) : EvD X F (.Compare a [.In] [b] pos) δ (.bl (decide (c ∈ j.cps.toList))) := d_cmp op_in_sign ha hb (fun F1 H vx vy Q s s1 rx ry k => by
  cases rx; cases ry
  exact ⟨c, j, rfl, rfl, k _ F1 H (.refl s1) (.bl _)⟩) hm
theorem d_ixS {k : Int} {c : Nat} (ha : EvD X F a δ (.str i)) (hb : EvD X F b δ (.int k)) (hl : i.length ≤ sizeLine) (h : atI i.cps.toList k = some c) (hs : PlainIx b := by exact fun _ _ => rfl) : EvD X F (.Subscript a b pos) δ (.str ⟨#[c]⟩) := d_ixR ix_str ha hb (fun F1 H vx vy Q s s1 rx ry q => by
  cases rx; cases ry
  exact ⟨i, k, c, rfl, rfl, hl, h, q _ F1 H (.refl s1) (.str _)⟩) hs
theorem d_ixT {k : Int} (ha : EvD X F a δ (.tup ds)) (hb : EvD X F b δ (.int k)) (h : atI ds k = some d) (hs : PlainIx b := by exact fun _ _ => rfl) : EvD X F (.Subscript a b pos) δ d := d_ixR ix_tup ha hb (fun F1 H vx vy Q s s1 rx ry q => by
  cases ry
  cases rx with
  | tup hp ra =>
    obtain ⟨m, hm⟩ : ∃ m, ixN ds.length k = some m := by
      unfold atI at h
      cases e : ixN ds.length k with
      | none => rw [e] at h; cases h
      | some m => exact ⟨m, rfl⟩
    have h' : ds[m]? = some d := by unfold atI at h; rw [hm] at h; exact h
    obtain ⟨v, hv, rv⟩ := ra.get h'
    exact ⟨_, _, k, v, rfl, rfl, SqT.of (s1 _ _ hp), by unfold atI; rw [ra.length, hm]; exact hv, q _ F1 H (.refl s1) rv⟩) hs
theorem d_ixL {k : Int} (ha : EvD X F a δ (.lst ds)) (hb : EvD X F b δ (.int k)) (h : atI ds k = some d) (hs : PlainIx b := by exact fun _ _ => rfl) : EvD X F (.Subscript a b pos) δ d := d_ixR ix_list ha hb (fun F1 H vx vy Q s s1 rx ry q => by
  cases ry
  cases rx with
  | lst hp ra =>
    obtain ⟨m, hm⟩ : ∃ m, ixN ds.length k = some m := by
      unfold atI at h
      cases e : ixN ds.length k with
      | none => rw [e] at h; cases h
      | some m => exact ⟨m, rfl⟩
    have h' : ds[m]? = some d := by unfold atI at h; rw [hm] at h; exact h
    obtain ⟨v, hv, rv⟩ := ra.get h'
    exact ⟨_, _, k, v, rfl, rfl, SqL.of (s1 _ _ hp), by unfold atI; rw [ra.length, hm]; exact hv, q _ F1 H (.refl s1) rv⟩) hs
end
end
end G

set_option Elab.async false
set_option linter.all false
set_option maxRecDepth 100000
set_option maxHeartbeats 4000000
namespace G
open PySem PySem.Spec PyProof.Rows L2
section
variable {X : Cx} {F : Hp} {δ : Sl} {e a b : Expr} {es : List Expr} {d x y z : Dt} {ds : List Dt}
/-! ### tests -/
theorem t_val {p : Bool} (h : EvD X F e δ (.bl p)) (he : ∀ whole, isTrue e X.env whole = (do let v ← whole; standAt e.pos; holding [v] (truthy v)) := by intro _; rfl) : EtD X F e δ p := fun F1 H σ Q s c k =>
  wt (pt_val pe he) (h F1 H σ _ s c fun v F' H' e' r => by cases r; exact ⟨p, rfl, k F' H' e'⟩)
theorem t_not {p : Bool} {pos : Pos} (h : EtD X F a δ p) : EtD X F (.UnaryOp .Not a pos) δ (!p) := fun F1 H σ Q s c k =>
  wt (pt_not pt) (h F1 H σ _ s c k)
def WW (X : Cx) (e : Expr) : TT := fun σ H Q => ∀ (whole : Sem Value) pins s, Inv X pins σ H s → wpAny (model X.prog X.w) X.A (isTrue e X.env whole) (TP X pins σ Q) X.xe s
theorem pw {X : Cx} {e : Expr} : PW X e (WW X e) := ⟨fun wh pins s _ _ _ I h => h wh pins s I⟩
theorem ww {e : Expr} {t : TT} (h : PW X e t) {σ : L2.St} {H : Hp} {Q : Bool → Hp → Prop} (q : t σ H Q) : WW X e σ H Q := fun wh pins s I => h.run wh pins s σ H Q I q
def EwD (X : Cx) (F : Hp) (e : Expr) (δ : Sl) (b : Bool) : Prop := ∀ (F1 H : Hp) (σ : L2.St) (Q : Bool → Hp → Prop), Same F F1 → Ctx F1 H σ δ → (∀ F' H', Ext F1 H F' H' → Q b H') → WW X e σ H Q
theorem t_w {p : Bool} (h : EwD X F e δ p) : EtD X F e δ p := fun F1 H σ Q s c k => wt (PW.pt pw) (h F1 H σ Q s c k)
theorem EwD.to {k k' : Bool} (h : EwD X F e δ k) (q : k = k') : EwD X F e δ k' := q ▸ h
theorem w_and1 {p : Bool} {pos : Pos} (h : EtD X F a δ p) : EwD X F (.BoolOp .And [a] pos) δ p := fun F1 H σ Q s c k => ww (pw_and1 pt) (h F1 H σ Q s c k)
theorem w_or1 {p : Bool} {pos : Pos} (h : EtD X F a δ p) : EwD X F (.BoolOp .Or [a] pos) δ p := fun F1 H σ Q s c k => ww (pw_or1 pt) (h F1 H σ Q s c k)
theorem w_and {p q : Bool} {pos : Pos} {rest : List Expr} (h : EtD X F a δ p) (h2 : p = true → EwD X F (.BoolOp .And (b :: rest) pos) δ q) : EwD X F (.BoolOp .And (a :: b :: rest) pos) δ (p && q) := fun F1 H σ Q s c k =>
  ww (pw_and pt pw) (h F1 H σ _ s c fun F2 H2 e2 => by
    cases p with
    | true => exact h2 rfl F2 H2 σ Q (s.trans e2.ff) (c.ext e2) fun F3 H3 e3 => k F3 H3 (e2.trans e3)
    | false => exact k F2 H2 e2)
theorem w_or {p q : Bool} {pos : Pos} {rest : List Expr} (h : EtD X F a δ p) (h2 : p = false → EwD X F (.BoolOp .Or (b :: rest) pos) δ q) : EwD X F (.BoolOp .Or (a :: b :: rest) pos) δ (p || q) := fun F1 H σ Q s c k =>
  ww (pw_or pt pw) (h F1 H σ _ s c fun F2 H2 e2 => by
    cases p with
    | false => exact h2 rfl F2 H2 σ Q (s.trans e2.ff) (c.ext e2) fun F3 H3 e3 => k F3 H3 (e2.trans e3)
    | true => exact k F2 H2 e2)
/-- .. as values -/
theorem d_one {op} {pos : Pos} (h : EvD X F a δ d) : EvD X F (.BoolOp op [a] pos) δ d := fun F1 H σ Q s c k => we (pe_one pe) (h F1 H σ Q s c k)
theorem d_and {p : Bool} {pos : Pos} {rest : List Expr} (h : EvD X F a δ (.bl p)) (h2 : p = true → EvD X F (.BoolOp .And (b :: rest) pos) δ d) (h3 : p = false → d = .bl false) : EvD X F (.BoolOp .And (a :: b :: rest) pos) δ d := fun F1 H σ Q s c k =>
  we (pe_and pe pe) (h F1 H σ _ s c fun v F2 H2 e2 r2 => by
    cases r2
    cases p with
    | true => exact ⟨true, rfl, h2 rfl F2 H2 σ Q (s.trans e2.ff) (c.ext e2) fun v F3 H3 e3 => k v F3 H3 (e2.trans e3)⟩
    | false => exact ⟨false, rfl, k _ F2 H2 e2 (by rw [h3 rfl]; exact .bl false)⟩)
theorem d_or {p : Bool} {pos : Pos} {rest : List Expr} (h : EvD X F a δ (.bl p)) (h2 : p = false → EvD X F (.BoolOp .Or (b :: rest) pos) δ d) (h3 : p = true → d = .bl true) : EvD X F (.BoolOp .Or (a :: b :: rest) pos) δ d := fun F1 H σ Q s c k =>
  we (pe_or pe pe) (h F1 H σ _ s c fun v F2 H2 e2 r2 => by
    cases r2
    cases p with
    | false => exact ⟨false, rfl, h2 rfl F2 H2 σ Q (s.trans e2.ff) (c.ext e2) fun v F3 H3 e3 => k v F3 H3 (e2.trans e3)⟩
    | true => exact ⟨true, rfl, k _ F2 H2 e2 (by rw [h3 rfl]; exact .bl true)⟩)
theorem d_andB {p q : Bool} {pos : Pos} {rest : List Expr} (h : EvD X F a δ (.bl p)) (h2 : p = true → EvD X F (.BoolOp .And (b :: rest) pos) δ (.bl q)) : EvD X F (.BoolOp .And (a :: b :: rest) pos) δ (.bl (p && q)) := d_and h (fun hp => by subst hp; exact h2 rfl) (fun hp => by subst hp; rfl)
theorem d_orB {p q : Bool} {pos : Pos} {rest : List Expr} (h : EvD X F a δ (.bl p)) (h2 : p = false → EvD X F (.BoolOp .Or (b :: rest) pos) δ (.bl q)) : EvD X F (.BoolOp .Or (a :: b :: rest) pos) δ (.bl (p || q)) := d_or h (fun hp => by subst hp; exact h2 rfl) (fun hp => by subst hp; rfl)
theorem d_not {p : Bool} {pos : Pos} (h : EvD X F a δ (.bl p)) : EvD X F (.UnaryOp .Not a pos) δ (.bl (!p)) := fun F1 H σ Q s c k =>
  we (pe_not pe) (h F1 H σ _ s c fun v F2 H2 e2 r2 => by cases r2; exact ⟨p, rfl, k _ F2 H2 e2 (.bl _)⟩)
theorem d_ifx {c : Expr} {p : Bool} {pos : Pos} (h : EtD X F c δ p) (h1 : p = true → EvD X F a δ d) (h2 : p = false → EvD X F b δ d) : EvD X F (.IfExp c a b pos) δ d := fun F1 H σ Q s cc k =>
  we (pe_ifExp pt pe pe) (h F1 H σ _ s cc fun F2 H2 e2 => by
    cases p with
    | true => exact h1 rfl F2 H2 σ Q (s.trans e2.ff) (cc.ext e2) fun v F3 H3 e3 => k v F3 H3 (e2.trans e3)
    | false => exact h2 rfl F2 H2 σ Q (s.trans e2.ff) (cc.ext e2) fun v F3 H3 e3 => k v F3 H3 (e2.trans e3))

/-! ### calls -/
inductive Res where
  | ok (d : Dt) | err (C : Addr)
/-- a def's promise by data: what it answers, the knowledge growing -/
def spR (pre : Hp → List Dt → Res → Prop) : Sp := fun vs H Q E => ∃ F ds r, Same F H ∧ RepA F vs ds ∧ pre F ds r ∧ (match r with
  | .ok d => ∀ v F' H', Ext F H F' H' → Rep F' v d → Q v H'
  | .err C => ∀ F' H', Ext F H F' H' → E (.ref C) none H')
structure Cal (P : Program) (w : World) (K : PySem.W.Frag) (mg : Str → Option Value) (base : Heap) (cx : CXT) (k : Nat) (n : Str) (sp : Sp) : Prop where
  ex : ∃ f fd ps, FnOk P w K mg base cx k f fd ps sp ∧ mg n = some (.ref f) ∧ PySem.W.keepIn K (.ref f) = true ∧ Binds K fd ps []
theorem Cal.up {P : Program} {w : World} {K : PySem.W.Frag} {mg : Str → Option Value} {base : Heap} {cx : CXT} {k k' : Nat} {n : Str} {sp : Sp} (c : Cal P w K mg base cx k n sp) (h : k ≤ k') : Cal P w K mg base cx k' n sp := by
  obtain ⟨f, fd, ps, h1, h2, h3, h4⟩ := c.ex
  exact ⟨f, fd, ps, h1.mono h, h2, h3, h4⟩
theorem Cal.imp {P : Program} {w : World} {K : PySem.W.Frag} {mg : Str → Option Value} {base : Heap} {cx : CXT} {k : Nat} {n : Str} {sp sp' : Sp} (c : Cal P w K mg base cx k n sp) (h : ∀ vs H Q E, sp' vs H Q E → sp vs H Q E) : Cal P w K mg base cx k n sp' := by
  obtain ⟨f, fd, ps, h1, h2, h3, h4⟩ := c.ex
  exact ⟨f, fd, ps, h1.imp h, h2, h3, h4⟩
theorem c_call {cx : CXT} {k : Nat} {n : Str} {sp : Sp} {p pos : Pos} {E : XK} {t : TA} (C : Cal X.prog X.w X.K X.mg X.base cx k n sp) (hr : Room k X.A) (hg : Gl X n) (hx : Passes cx X E) (ha : PA X (e :: es) t)
    (hdb : (n == ("__debug__" : Str)) = false := by decide) (he : starEach (e :: es) X.env = (false, eval e X.env) :: starEach es X.env := by rfl) (hpl : (backTo pos (starEach es X.env)).any (·.1) = false := by rfl) :
    PE X (.Call (.Name n p) (e :: es) [] pos) (tCall sp [] E t) := by
  obtain ⟨f, fd, ps, h1, h2, h3, h4⟩ := C.ex
  exact pe_call h1 hr hg h2 h3 h4 .nil hx ha hdb he hpl
theorem d_call {cx : CXT} {k : Nat} {n : Str} {pre : Hp → List Dt → Res → Prop} {p pos : Pos} (C : Cal X.prog X.w X.K X.mg X.base cx k n (spR pre)) (hr : Room k X.A) (ha : EaD X F (e :: es) δ ds) (hpre : ∀ F1, Same F F1 → pre F1 ds (.ok d))
    (hg : Gl X n := by rfl) (hx : Passes cx X E0 := by first | exact pass0 | exact passL) (hdb : (n == ("__debug__" : Str)) = false := by decide) (he : starEach (e :: es) X.env = (false, eval e X.env) :: starEach es X.env := by rfl) (hpl : (backTo pos (starEach es X.env)).any (·.1) = false := by rfl) :
    EvD X F (.Call (.Name n p) (e :: es) [] pos) δ d := fun F1 H σ Q s c q =>
  we (c_call C hr hg hx pa hdb he hpl) (ha F1 H σ _ s c fun vs F2 H2 e2 r2 => by
    show spR pre (vs ++ []) H2 Q E0
    rw [List.append_nil]
    exact ⟨F2, ds, .ok d, e2.sub, r2, hpre F2 (s.trans e2.ff), fun v F3 H3 e3 r3 => q v F3 H3 (e2.trans e3) r3⟩)
/-- built-in functions and types by values -/
theorem d_bf {id : String} {n : Str} {r : List V → Hp → VK → Prop} {p pos : Pos} (hc : CallR X (.builtin id) r) (hm : X.mg n = none) (hv : bootBuiltins n = some (.builtin id)) (ha : EaD X F (e :: es) δ ds) (hr : RC F r ds d)
    (hg : Gl X n := by rfl) (hn : n ≠ "__name__" := by decide) (hdb : (n == ("__debug__" : Str)) = false := by decide)
    (he : starEach (e :: es) X.env = (false, eval e X.env) :: starEach es X.env := by rfl) (hpl : (backTo pos (starEach es X.env)).any (·.1) = false := by rfl) : EvD X F (.Call (.Name n p) (e :: es) [] pos) δ d := fun F1 H σ Q s c q =>
  we (pe_callB hc hg hm hv pa hn hdb he hpl) (ha F1 H σ _ s c fun vs F2 H2 e2 r2 => hr F2 H2 vs Q (s.trans e2.ff) e2.sub r2 fun v F3 H3 e3 r3 => q v F3 H3 (e2.trans e3) r3)
theorem d_bt {T : String} {n : Str} {r : List V → Hp → VK → Prop} {p pos : Pos} (hc : CallR X (.type T) r) (hm : X.mg n = none) (hv : bootBuiltins n = some (.type T)) (ha : EaD X F (e :: es) δ ds) (hr : RC F r ds d)
    (hg : Gl X n := by rfl) (hn : n ≠ "__name__" := by decide) (hdb : (n == ("__debug__" : Str)) = false := by decide)
    (he : starEach (e :: es) X.env = (false, eval e X.env) :: starEach es X.env := by rfl) (hpl : (backTo pos (starEach es X.env)).any (·.1) = false := by rfl) : EvD X F (.Call (.Name n p) (e :: es) [] pos) δ d := fun F1 H σ Q s c q =>
  we (pe_callTy hc hg hm hv pa hn hdb he hpl) (ha F1 H σ _ s c fun vs F2 H2 e2 r2 => hr F2 H2 vs Q (s.trans e2.ff) e2.sub r2 fun v F3 H3 e3 r3 => q v F3 H3 (e2.trans e3) r3)
theorem a_one (h : EvD X F e δ d) (hs : starEach [e] X.env = (false, eval e X.env) :: starEach [] X.env := by rfl) : EaD X F [e] δ [d] := a_cons h a_nil hs
theorem d_ord {c : Nat} {p pos : Pos} (hm : X.mg "ord" = none) (h : EvD X F e δ (.str ⟨#[c]⟩)) (hg : Gl X "ord" := by rfl) (he : starEach [e] X.env = (false, eval e X.env) :: starEach [] X.env := by rfl) (hpl : (backTo pos (starEach [] X.env)).any (·.1) = false := by rfl) :
    EvD X F (.Call (.Name "ord" p) [e] [] pos) δ (.int (c : Nat)) := d_bf call_ord hm (by decide +kernel) (a_one h he) (fun F1 H vs Q s s1 r q => by
  cases r with
  | cons r1 r2 =>
    cases r2
    cases r1
    exact ⟨⟨#[c]⟩, rfl, rfl, q _ F1 H (.refl s1) (.int _)⟩) hg (by decide) (by decide) he hpl
theorem d_lenS {t : Str} {p pos : Pos} (hm : X.mg "len" = none) (h : EvD X F e δ (.str t)) (hz : t.length ≤ sizeLine) (hg : Gl X "len" := by rfl) (he : starEach [e] X.env = (false, eval e X.env) :: starEach [] X.env := by rfl) (hpl : (backTo pos (starEach [] X.env)).any (·.1) = false := by rfl) :
    EvD X F (.Call (.Name "len" p) [e] [] pos) δ (.int (t.length : Nat)) := d_bf call_len_str hm PySem.boot_len (a_one h he) (fun F1 H vs Q s s1 r q => by
  cases r with
  | cons r1 r2 =>
    cases r2
    cases r1
    exact ⟨t, rfl, hz, q _ F1 H (.refl s1) (.int _)⟩) hg (by decide) (by decide) he hpl
theorem d_lenT {p pos : Pos} (hm : X.mg "len" = none) (h : EvD X F e δ (.tup ds)) (hg : Gl X "len" := by rfl) (he : starEach [e] X.env = (false, eval e X.env) :: starEach [] X.env := by rfl) (hpl : (backTo pos (starEach [] X.env)).any (·.1) = false := by rfl) :
    EvD X F (.Call (.Name "len" p) [e] [] pos) δ (.int (ds.length : Nat)) := d_bf call_len_seq hm PySem.boot_len (a_one h he) (fun F1 H vs Q s s1 r q => by
  cases r with
  | cons r1 r2 =>
    cases r2
    cases r1 with
    | tup hp ra => exact ⟨_, _, rfl, .inr (SqT.of (s1 _ _ hp)), by rw [ra.length]; exact q _ F1 H (.refl s1) (.int _)⟩) hg (by decide) (by decide) he hpl
theorem d_lenL {p pos : Pos} (hm : X.mg "len" = none) (h : EvD X F e δ (.lst ds)) (hg : Gl X "len" := by rfl) (he : starEach [e] X.env = (false, eval e X.env) :: starEach [] X.env := by rfl) (hpl : (backTo pos (starEach [] X.env)).any (·.1) = false := by rfl) :
    EvD X F (.Call (.Name "len" p) [e] [] pos) δ (.int (ds.length : Nat)) := d_bf call_len_seq hm PySem.boot_len (a_one h he) (fun F1 H vs Q s s1 r q => by
  cases r with
  | cons r1 r2 =>
    cases r2
    cases r1 with
    | lst hp ra => exact ⟨_, _, rfl, .inl (SqL.of (s1 _ _ hp)), by rw [ra.length]; exact q _ F1 H (.refl s1) (.int _)⟩) hg (by decide) (by decide) he hpl
theorem d_min2 {i j : Int} {p pos : Pos} (hm : X.mg "min" = none) (hc : X.calm = true) (ha : EaD X F (e :: es) δ [.int i, .int j]) (hg : Gl X "min" := by rfl)
    (he : starEach (e :: es) X.env = (false, eval e X.env) :: starEach es X.env := by rfl) (hpl : (backTo pos (starEach es X.env)).any (·.1) = false := by rfl) : EvD X F (.Call (.Name "min" p) (e :: es) [] pos) δ (.int (if j < i then j else i)) := d_bf (call_min2 hc) hm (by decide +kernel) ha (fun F1 H vs Q s s1 r q => by
  cases r with
  | cons r1 r2 =>
    cases r2 with
    | cons r2 r3 =>
      cases r1; cases r2; cases r3
      exact ⟨i, j, rfl, q _ F1 H (.refl s1) (.int _)⟩) hg (by decide) (by decide) he hpl
end

/-! ### statements -/
inductive Out where
  | nx (δ : Sl) | ret (d : Dt) | brk (δ : Sl) | ct (δ : Sl) | err (C : Addr)
def Post (F H : Hp) (D : Ends) (W : WX) : Out → Prop
  | .nx δ => ∀ F' H' σ', Ext F H F' H' → Ctx F' H' σ' δ → D.nx σ' H'
  | .ret d => ∀ v F' H', Ext F H F' H' → Rep F' v d → D.rt v H'
  | .brk δ => ∀ F' H' σ', Ext F H F' H' → Ctx F' H' σ' δ → D.bk σ' H'
  | .ct δ => ∀ F' H' σ', Ext F H F' H' → Ctx F' H' σ' δ → D.ct σ' H'
  | .err C => ∀ F' H' σ', Ext F H F' H' → W (.ref C) none σ' H'
theorem Post.ext {F H F1 H1 : Hp} {D : Ends} {W : WX} : ∀ {o : Out}, Ext F H F1 H1 → Post F H D W o → Post F1 H1 D W o
  | .nx _, e, p => fun F' H' σ' e' => p F' H' σ' (e.trans e')
  | .ret _, e, p => fun v F' H' e' => p v F' H' (e.trans e')
  | .brk _, e, p => fun F' H' σ' e' => p F' H' σ' (e.trans e')
  | .ct _, e, p => fun F' H' σ' e' => p F' H' σ' (e.trans e')
  | .err _, e, p => fun F' H' σ' e' => p F' H' σ' (e.trans e')
/-- a block, by data -/
def SD (X : Cx) (F : Hp) (st : List Stmt) (δ : Sl) (o : Out) : Prop := ∀ (F1 H : Hp) (σ : L2.St) (D : Ends) (W : WX), Same F F1 → Takes X W → Ctx F1 H σ δ → δ.length ≤ X.N.length → Post F1 H D W o → WSs X st D σ H
/-- an expression that raises -/
def EeD (X : Cx) (F : Hp) (e : Expr) (δ : Sl) (C : Addr) : Prop := ∀ (F1 H : Hp) (σ : L2.St) (Q : VK) (W : WX), Same F F1 → Takes X W → Ctx F1 H σ δ → (∀ F' H', Ext F1 H F' H' → W (.ref C) none σ H') → WE X e σ H Q
section
variable {X : Cx} {F : Hp} {δ δ1 : Sl} {e a b c : Expr} {es : List Expr} {d x y z : Dt} {ds : List Dt} {st body els rest : List Stmt} {o : Out} {pos : Pos} {n : Str}
theorem SD.know {F' : Hp} (h : SD X F st δ o) (s : Same F F') : SD X F' st δ o := fun F1 H σ D W s1 => h F1 H σ D W (s.trans s1)
theorem SD.wk (h : SD X F st δ (.nx δ1)) {δ2 : Sl} (w : Wk δ1 δ2) : SD X F st δ (.nx δ2) := fun F1 H σ D W s t c l p => h F1 H σ D W s t c l fun F' H' σ' e' c' => p F' H' σ' e' (c'.wk w)
theorem SD.pre {δ0 : Sl} (h : SD X F st δ o) (w : Wk δ0 δ) (l : δ.length ≤ δ0.length) : SD X F st δ0 o := fun F1 H σ D W s t c l' p => h F1 H σ D W s t (c.wk w) (Nat.le_trans l l') p
theorem s_nil : SD X F [] δ (.nx δ) := fun F1 H σ D W s t c l p => wss pss_nil (p F1 H σ (.refl c.sub) c)
theorem s_asg (i : Nat) {pos' : Pos} (he : EvD X F e δ d) (hr : SD X F rest (δ.set i (some d)) o) (hN : X.N.Nodup) (hi : X.N[i]? = some n := by rfl) (hx : Loc X.env.scope n := by first | exact Or.inl rfl | exact Or.inr rfl)
    (hs : swapsWith e (some (.Name n pos')) pos.line X.env = pure false := by rfl) (hf : X.fn n = true ∨ X.env.scope.names.lookup n = some .local := by first | exact .inl rfl | exact .inr rfl) :
    SD X F (.Assign [.Name n pos'] e pos :: rest) δ o := fun F1 H σ D W s t c l p => WSs.len fun hl =>
  wss (pss_cons (ps_set hN hi hx pe hs hf) pss) (he F1 H σ _ s c fun v F2 H2 e2 r2 => hr F2 H2 _ D W (s.trans e2.ff) t ((c.ext e2).set (by omega) i r2) (by rw [List.length_set]; exact l) (p.ext e2))
theorem s_exp (he : EvD X F e δ d) (hr : SD X F rest δ o) (hs : swapsWith e none pos.line X.env = pure false := by rfl) : SD X F (.Expr e pos :: rest) δ o := fun F1 H σ D W s t c l p =>
  wss (pss_cons (ps_expr pe hs) pss) (he F1 H σ _ s c fun v F2 H2 e2 r2 => hr F2 H2 _ D W (s.trans e2.ff) t (c.ext e2) l (p.ext e2))
theorem s_doc {t : Str} {j p1 p2} (hr : SD X F rest δ o) : SD X F (.Expr (.Constant (.str t) j p1) p2 :: rest) δ o := fun F1 H σ D W s t c l p => wss (pss_cons ps_doc pss) (hr F1 H σ D W s t c l p)
theorem s_ret (he : EvD X F e δ d) : SD X F (.Return (some e) pos :: rest) δ (.ret d) := fun F1 H σ D W s t c l p =>
  wss (pss_cons (ps_ret pe) pss) (he F1 H σ _ s c fun v F2 H2 e2 r2 => p v F2 H2 e2 r2)
theorem s_retN : SD X F (.Return none pos :: rest) δ (.ret .non) := fun F1 H σ D W s t c l p => wss (pss_cons ps_retN pss) (p _ F1 H (.refl c.sub) .non)
theorem s_brk : SD X F (.Break pos :: rest) δ (.brk δ) := fun F1 H σ D W s t c l p => wss (pss_cons ps_break pss) (p F1 H σ (.refl c.sub) c)
theorem s_ct : SD X F (.Continue pos :: rest) δ (.ct δ) := fun F1 H σ D W s t c l p => wss (pss_cons ps_continue pss) (p F1 H σ (.refl c.sub) c)
theorem s_pass (hr : SD X F rest δ o) : SD X F (.Pass pos :: rest) δ o := fun F1 H σ D W s t c l p => wss (pss_cons ps_pass pss) (hr F1 H σ D W s t c l p)
/-- a block, then the rest -/
inductive Sq (X : Cx) (F : Hp) (body rest : List Stmt) (δ : Sl) (o : Out) : Prop
  | go {δ1 : Sl} (h : SD X F body δ (.nx δ1)) (hr : SD X F rest δ1 o) (hl : δ1.length ≤ δ.length := by exact Nat.le_refl _)
  | out (h : SD X F body δ o) (hn : ∀ δ', o ≠ .nx δ')
theorem Sq.run (q : Sq X F body rest δ o) {F1 H : Hp} {σ : L2.St} {D : Ends} {W : WX} (s : Same F F1) (t : Takes X W) (c : Ctx F1 H σ δ) (l : δ.length ≤ X.N.length) (p : Post F1 H D W o) : WSs X body { D with nx := WSs X rest D } σ H := by
  cases q with
  | go h hr hl => exact h F1 H σ _ W s t c l fun F' H' σ' e' c' => hr F' H' σ' D W (s.trans e'.ff) t c' (Nat.le_trans hl l) (p.ext e')
  | out h hn =>
    refine h F1 H σ _ W s t c l ?_
    cases o with
    | nx δ' => exact absurd rfl (hn δ')
    | ret d => exact p
    | brk d => exact p
    | ct d => exact p
    | err d => exact p
theorem s_if {k : Bool} (hc : EtD X F c δ k) (h1 : k = true → Sq X F body rest δ o) (h2 : k = false → Sq X F els rest δ o) : SD X F (.If c body els pos :: rest) δ o := fun F1 H σ D W s t cc l p =>
  wss (pss_cons (ps_if pt pss pss) pss) (hc F1 H σ _ s cc fun F2 H2 e2 => by
    cases k with
    | true => exact (h1 rfl).run (s.trans e2.ff) t (cc.ext e2) l (p.ext e2)
    | false => exact (h2 rfl).run (s.trans e2.ff) t (cc.ext e2) l (p.ext e2))
/-- no else -/
theorem s_when {k : Bool} (hc : EtD X F c δ k) (h1 : k = true → Sq X F body rest δ o) (h2 : k = false → SD X F rest δ o) : SD X F (.If c body [] pos :: rest) δ o :=
  s_if hc h1 fun hk => .go s_nil (h2 hk)
theorem s_ifT (hc : EtD X F c δ true) (h1 : Sq X F body rest δ o) : SD X F (.If c body els pos :: rest) δ o := s_if hc (fun _ => h1) (fun h => nomatch h)
theorem s_ifF (hc : EtD X F c δ false) (h1 : Sq X F els rest δ o) : SD X F (.If c body els pos :: rest) δ o := s_if hc (fun h => nomatch h) (fun _ => h1)
theorem s_no (hc : EtD X F c δ false) (h1 : SD X F rest δ o) : SD X F (.If c body [] pos :: rest) δ o := s_when hc (fun h => nomatch h) (fun _ => h1)
/-- targets -/
def TgD (X : Cx) (F : Hp) (tg : Expr) (d : Dt) (δ δ' : Sl) : Prop := ∀ (F1 H : Hp) (σ : L2.St) (v : V) (Q : L2.St → Hp → Prop), Same F F1 → Ctx F1 H σ δ → δ.length ≤ σ.length → Rep F1 v d → (∀ F' H' σ', Ext F1 H F' H' → Ctx F' H' σ' δ' → Q σ' H') → WG X tg v σ H Q
theorem g_n (i : Nat) (hN : X.N.Nodup) (hi : X.N[i]? = some n := by rfl) (hx : Loc X.env.scope n := by first | exact Or.inl rfl | exact Or.inr rfl) (hf : X.fn n = true ∨ X.env.scope.names.lookup n = some .local := by first | exact .inl rfl | exact .inr rfl) :
    TgD X F (.Name n pos) d δ (δ.set i (some d)) := fun F1 H σ v Q s c l r q => wg (pg_name hN hi hx hf) (q F1 H _ (.refl c.sub) (c.set l i r))
theorem g_tup2 {t1 t2 : Expr} {kk : Nat} {δ2 : Sl} (hc : X.calm = true) (h1 : TgD X F t1 x δ δ1) (l1 : δ1.length = δ.length) (h2 : TgD X F t2 y δ1 δ2)
    (hs : (assignEach [t1, t2] X.env).map (·.2) = assign t1 X.env :: (assignEach [t2] X.env).map (·.2) := by rfl) (hs2 : (assignEach [t2] X.env).map (·.2) = assign t2 X.env :: (assignEach [] X.env).map (·.2) := by rfl)
    (hn : (assignEach [t1, t2] X.env).length = 2 := by rfl) (hst : (assignEach [t1, t2] X.env).findIdx? (·.1) = none := by rfl) :
    TgD X F (.Tuple [t1, t2] kk pos) (.tup [x, y]) δ δ2 := fun F1 H σ v Q s c l r q => WG.len fun hl => by
  cases r with
  | tup hp ra =>
    cases ra with
    | cons r1 ra =>
      cases ra with
      | cons r2 ra =>
        cases ra
        refine wg (pg_tup hc (pgs_cons pg (pgs_cons pg pgs_nil hs2) hs) hn hst) ⟨_, _, rfl, SqT.of (c.sub _ _ hp), rfl, _, _, rfl, ?_⟩
        refine h1 F1 H σ _ _ s c l r1 fun F2 H2 σ2 e2 c2 => ⟨_, _, rfl, ?_⟩
        exact WG.len fun hl2 => h2 F2 H2 σ2 _ _ (s.trans e2.ff) c2 (by omega) (r2.mono e2.ff) fun F3 H3 σ3 e3 c3 => ⟨rfl, q F3 H3 σ3 (e2.trans e3) c3⟩
theorem s_asgG {tg : Expr} (he : EvD X F e δ d) (hg : TgD X F tg d δ δ1) (l1 : δ1.length = δ.length) (hr : SD X F rest δ1 o) (hs : swapsWithSole [tg] e pos.line X.env = pure false := by rfl) (hw : swappedStores [tg] e X.env = pure none := by rfl)
    (h1 : (assignEach [tg] X.env).map (·.2) = [assign tg X.env] := by rfl) : SD X F (.Assign [tg] e pos :: rest) δ o := fun F1 H σ D W s t c l p => WSs.len fun hl =>
  wss (pss_cons (ps_asg pe pg hs hw h1) pss) (he F1 H σ _ s c fun v F2 H2 e2 r2 => hg F2 H2 σ v _ (s.trans e2.ff) (c.ext e2) (by omega) r2 fun F3 H3 σ3 e3 c3 =>
    hr F3 H3 σ3 D W ((s.trans e2.ff).trans e3.ff) t c3 (by omega) (p.ext (e2.trans e3)))
end
end G

set_option Elab.async false
set_option linter.all false
set_option maxRecDepth 100000
set_option maxHeartbeats 4000000
namespace G
open PySem PySem.Spec PyProof.Rows L2
/-! ### walks -/
structure Yields (J : It) (F : Hp) (ds : List Dt) : Prop where
  go : ∀ i H, Same F H → i < ds.length → J.go i H
  yld : ∀ (i : Nat) (d : Dt) (Fc H : Hp) (x : V) (H' : Hp), ds[i]? = some d → Same F Fc → Same Fc H → J.yld i H x H' → ∃ F', Ext Fc H F' H' ∧ Rep F' x d
  stop : ∀ i H, Same F H → ds.length ≤ i → J.stop i H
def WI (X : Cx) (tg iter : Expr) : TI := fun σ H R => ∀ pins s, Inv X pins σ H s → wpAny (model X.prog X.w) X.A (eval iter X.env) (fun v s1 => wpAny (model X.prog X.w) X.A (pyIter v) (PIE X pins σ tg R) X.xe s1) X.xe s
theorem pi {X : Cx} {tg iter : Expr} : PI X tg iter (WI X tg iter) := ⟨fun pins s _ _ _ I h => h pins s I⟩
theorem wi {X : Cx} {tg iter : Expr} {t : TI} (h : PI X tg iter t) {σ : L2.St} {H : Hp} {R : It → Hp → Prop} (q : t σ H R) : WI X tg iter σ H R := fun pins s I => h.run pins s σ H R I q
def IterD (X : Cx) (F : Hp) (tg iter : Expr) (δ : Sl) (ds : List Dt) : Prop := ∀ (F1 H : Hp) (σ : L2.St) (R : It → Hp → Prop), Same F F1 → Ctx F1 H σ δ → (∀ J F' H', Ext F1 H F' H' → Yields J F' ds → R J H') → WI X tg iter σ H R
section
variable {X : Cx} {F : Hp} {δ δ1 : Sl} {e a b c tg iter : Expr} {es : List Expr} {d x y z : Dt} {ds : List Dt} {st body els rest : List Stmt} {o : Out} {pos p : Pos} {n : Str}
theorem same_seqL {K : PySem.W.Frag} {F H : Hp} {a : Addr} {xs : List V} (s : Same F H) (h : F a = some (.lst xs)) : SqL K H a xs := SqL.of (s _ _ h)
theorem i_lst (he : EvD X F e δ (.lst ds)) : IterD X F tg e δ ds := fun F1 H σ R s c k =>
  wi (pi_list pe) (he F1 H σ _ s c fun v F2 H2 e2 r2 => by
    cases r2 with
    | lst hp ra => exact ⟨_, rfl, ⟨_, SqL.of (e2.sub _ _ hp)⟩, k _ F2 H2 e2 ⟨
        fun i H' s' hi => by
          obtain ⟨v, hv, _⟩ := ra.get (List.getElem?_eq_getElem hi)
          exact ⟨_, v, SqL.of (s' _ _ hp), hv⟩,
        fun i d Fc H' x H'' hi s1 s2 hy => by
          obtain ⟨rfl, hy⟩ := hy
          obtain ⟨v, hv, rv⟩ := ra.get hi
          have q := hy _ (SqL.of (s2 _ _ (s1 _ _ hp)))
          rw [hv] at q; cases q
          exact ⟨Fc, .refl s2, rv.mono s1⟩,
        fun i H' s' hi => ⟨_, SqL.of (s' _ _ hp), by rw [ra.length]; exact hi⟩⟩⟩)
theorem i_tup (he : EvD X F e δ (.tup ds)) : IterD X F tg e δ ds := fun F1 H σ R s c k =>
  wi (pi_tup pe) (he F1 H σ _ s c fun v F2 H2 e2 r2 => by
    cases r2 with
    | tup hp ra => exact ⟨_, rfl, ⟨_, SqT.of (e2.sub _ _ hp)⟩, k _ F2 H2 e2 ⟨
        fun i H' s' hi => by
          obtain ⟨v, hv, _⟩ := ra.get (List.getElem?_eq_getElem hi)
          exact ⟨_, v, SqT.of (s' _ _ hp), hv⟩,
        fun i d Fc H' x H'' hi s1 s2 hy => by
          obtain ⟨rfl, hy⟩ := hy
          obtain ⟨v, hv, rv⟩ := ra.get hi
          have q := hy _ (SqT.of (s2 _ _ (s1 _ _ hp)))
          rw [hv] at q; cases q
          exact ⟨Fc, .refl s2, rv.mono s1⟩,
        fun i H' s' hi => ⟨_, SqT.of (s' _ _ hp), by rw [ra.length]; exact hi⟩⟩⟩)
theorem yields_rng {F : Hp} {lo : Int} {m : Nat} : Yields (Itr lo m) F ((List.range m).map fun i => Dt.int (lo + (i : Nat))) where
  go := fun i H _ hi => by
    show i < m
    simpa using hi
  yld := fun i d Fc H x H' hi s1 s2 hy => by
    obtain ⟨rfl, rfl⟩ := hy
    have hi' : d = Dt.int (lo + (i : Nat)) := by
      rw [List.getElem?_map] at hi
      obtain ⟨j, hj, rfl⟩ := Option.map_eq_some_iff.mp hi
      obtain ⟨h1, h2⟩ := List.getElem?_eq_some_iff.mp hj
      rw [List.getElem_range] at h2
      rw [h2]
    rw [hi']
    exact ⟨Fc, .refl s2, .int _⟩
  stop := fun i H _ hi => by
    show m ≤ i
    simpa using hi
theorem i_rng1 {j : Int} (hm : X.mg "range" = none) (ha : EvD X F a δ (.int j)) (h1 : -(2 ^ 62) ≤ j) (h2 : j < 2 ^ 62) (hg : Gl X "range" := by rfl) (hs : starEach [a] X.env = [(false, eval a X.env)] := by rfl) :
    IterD X F tg (.Call (.Name "range" p) [a] [] pos) δ ((List.range j.toNat).map fun i => Dt.int ((0 : Int) + (i : Nat))) := fun F1 H σ R s c k =>
  wi (pi_range1 hg hm pa hs) (a_one ha hs F1 H σ _ s c fun vs F2 H2 e2 r2 => by
    cases r2 with
    | cons r1 r2 =>
      cases r2
      cases r1
      exact ⟨j, rfl, h1, h2, k _ F2 H2 e2 yields_rng⟩)
theorem i_rng2 {i j : Int} (hm : X.mg "range" = none) (ha : EvD X F a δ (.int i)) (hb : EvD X F b δ (.int j)) (h : -(2 ^ 62) ≤ i ∧ i < 2 ^ 62 ∧ -(2 ^ 62) ≤ j ∧ j < 2 ^ 62) (hg : Gl X "range" := by rfl) (hs : starEach [a, b] X.env = [(false, eval a X.env), (false, eval b X.env)] := by rfl) (hs2 : starEach [b] X.env = [(false, eval b X.env)] := by rfl) :
    IterD X F tg (.Call (.Name "range" p) [a, b] [] pos) δ ((List.range (j - i).toNat).map fun k => Dt.int (i + (k : Nat))) := fun F1 H σ R s c k =>
  wi (pi_range2 hg hm pa hs hs2) (a_cons ha (a_one hb hs2) (by rw [hs, hs2]) F1 H σ _ s c fun vs F2 H2 e2 r2 => by
    cases r2 with
    | cons r1 r2 =>
      cases r2 with
      | cons r2 r3 =>
        cases r3
        cases r1
        cases r2
        exact ⟨i, j, rfl, h, k _ F2 H2 e2 yields_rng⟩)
/-- what a turn's block comes to -/
def Goes (o : Out) (δ' : Sl) : Prop := ∃ δ2, (o = .nx δ2 ∨ o = .ct δ2) ∧ Wk δ2 δ'
theorem Goes.nx {δ' : Sl} : Goes (.nx δ') δ' := ⟨δ', .inl rfl, .refl _⟩
theorem Goes.ct {δ' : Sl} : Goes (.ct δ') δ' := ⟨δ', .inr rfl, .refl _⟩
/-- how a loop ends: by itself, or at the turn k -/
inductive LoopEnd (X : Cx) (F : Hp) (rest : List Stmt) (o : Out) (δn : Sl) (ok : Option Out) : Prop
  | done (h : ok = none) (hr : SD X F rest δn o)
  | brk {δ2 : Sl} (h : ok = some (.brk δ2)) (hl : δ2.length ≤ δn.length) (hr : SD X F rest δ2 o)
  | out (h : ok = some o) (hn : (∃ d, o = .ret d) ∨ ∃ C, o = .err C)
theorem LoopEnd.post {δn : Sl} {oo : Out} {F1 H : Hp} {D : Ends} {W : WX} {N : L2.St → Hp → Prop} (q : LoopEnd X F rest o δn (some oo)) (s : Same F F1) (t : Takes X W) (hl : δn.length ≤ X.N.length) (p : Post F1 H D W o) : Post F1 H { D with nx := N, ct := N, bk := WSs X rest D } W oo := by
  cases q with
  | done h hr => cases h
  | brk h hl2 hr =>
    cases h
    exact fun F' H' σ' e' c' => hr F' H' σ' D W (s.trans e'.ff) t c' (Nat.le_trans hl2 hl) (p.ext e')
  | out h hn =>
    cases h
    rcases hn with ⟨d, rfl⟩ | ⟨C, rfl⟩
    · exact p
    · exact p
theorem s_for (hp : PassesOwn (model X.prog X.w) X.A X.env X.xe) (hc : X.calm = true) (hI : IterD X F tg iter δ ds) (δs : Nat → Sl) (hl : ∀ i, (δs i).length = δ.length) (w0 : Wk δ (δs 0)) (k : Nat) (ok : Option Out)
    (hk : (ok = none ∧ k = ds.length) ∨ (∃ oo, ok = some oo) ∧ k < ds.length)
    (turn : ∀ i d, i < k → ds[i]? = some d → ∃ δ1 o1, TgD X F tg d (δs i) δ1 ∧ δ1.length = δ.length ∧ SD X F body δ1 o1 ∧ Goes o1 (δs (i + 1)))
    (last : ∀ d oo, ok = some oo → ds[k]? = some d → ∃ δ1, TgD X F tg d (δs k) δ1 ∧ δ1.length = δ.length ∧ SD X F body δ1 oo)
    (fin : LoopEnd X F rest o (δs k) ok)
    (hs : ∀ x, foldedSetIterable iter X.env x = pure x := by intro _; rfl) : SD X F (.For tg iter body [] pos :: rest) δ o := fun F1 H σ D W s t c l p => WSs.len fun hlen =>
  wss (pss_cons (ps_for hp hc pi pg pss hs) pss) (hI F1 H σ _ s c fun J F2 H2 e2 Y => by
    refine ⟨fun i m σ' H' => m = ds.length - i ∧ i ≤ k ∧ ∃ F', Ext F2 H2 F' H' ∧ Ctx F' H' σ' (δs i), ⟨ds.length, by simp, Nat.zero_le _, F2, .refl e2.sub, (c.ext e2).wk w0⟩, ?_⟩
    rintro i m σ' H' ⟨rfl, hi, F', e', c'⟩
    have hkl : k ≤ ds.length := by rcases hk with ⟨_, h⟩ | ⟨_, h⟩ <;> omega
    have sF : Same F F' := (s.trans e2.ff).trans e'.ff
    by_cases hlt : i < k
    · -- a turn that goes on
      refine .inr ⟨Y.go i H' (e'.ff.trans e'.sub) (by omega), fun σ'' H'' => ∃ F'', Ext F2 H2 F'' H'' ∧ Ctx F'' H'' σ'' (δs (i + 1)), fun σ'' H'' hh => ⟨ds.length - (i + 1), by omega, rfl, hlt, hh⟩, fun x H'' hy => ?_⟩
      obtain ⟨F'', e'', r''⟩ := Y.yld i ds[i] F' H' x H'' (List.getElem?_eq_getElem (by omega)) e'.ff e'.sub hy
      obtain ⟨δ1, o1, ht, hl1, hb, δ2, ho, w2⟩ := turn i ds[i] hlt (List.getElem?_eq_getElem (by omega))
      refine WG.len fun hlen' => ht F'' H'' σ' x _ (sF.trans e''.ff) (c'.ext e'') (by rw [hl, hlen']; exact l) r'' fun F3 H3 σ3 e3 c3 => WSs.len fun hl3 => ?_
      have e13 : Ext F2 H2 F3 H3 := (e'.trans e'').trans e3
      refine hb F3 H3 σ3 _ W ((sF.trans e''.ff).trans e3.ff) t c3 (by omega) ?_
      rcases ho with rfl | rfl
      · exact fun F4 H4 σ4 e4 c4 => ⟨F4, e13.trans e4, c4.wk w2⟩
      · exact fun F4 H4 σ4 e4 c4 => ⟨F4, e13.trans e4, c4.wk w2⟩
    · have e0 : i = k := by omega
      subst e0
      rcases hk with ⟨h1, h2⟩ | ⟨⟨oo, h1⟩, h2⟩
      · refine .inl ⟨Y.stop i H' (e'.ff.trans e'.sub) (by omega), ?_⟩
        cases fin with
        | done h hr => exact hr F' H' σ' D W sF t c' (by rw [hl]; exact l) (p.ext (e2.trans e'))
        | brk h _ _ => rw [h1] at h; cases h
        | out h _ => rw [h1] at h; cases h
      · refine .inr ⟨Y.go i H' (e'.ff.trans e'.sub) (by omega), fun _ _ => False, fun _ _ h => h.elim, fun x H'' hy => ?_⟩
        obtain ⟨F'', e'', r''⟩ := Y.yld i ds[i] F' H' x H'' (List.getElem?_eq_getElem (by omega)) e'.ff e'.sub hy
        obtain ⟨δ1, ht, hl1, hb⟩ := last ds[i] oo h1 (List.getElem?_eq_getElem (by omega))
        refine WG.len fun hlen' => ht F'' H'' σ' x _ (sF.trans e''.ff) (c'.ext e'') (by rw [hl, hlen']; exact l) r'' fun F3 H3 σ3 e3 c3 => WSs.len fun hl3 => ?_
        subst h1
        exact hb F3 H3 σ3 _ W ((sF.trans e''.ff).trans e3.ff) t c3 (by omega) (fin.post ((sF.trans e''.ff).trans e3.ff) t (by rw [hl]; exact l) (p.ext (((e2.trans e').trans e'').trans e3))))
end
end G

set_option Elab.async false
set_option linter.all false
set_option maxRecDepth 100000
set_option maxHeartbeats 4000000
namespace G
open PySem PySem.Spec PyProof.Rows L2
/-! ### a def by its body, by data -/
def startD (N : List Str) (ds : List Dt) : Sl := ds.map some ++ List.replicate (N.length - ds.length) none
theorem start_ctx {F H : Hp} {N : List Str} {vs : List V} {ds : List Dt} (s : Same F H) (r : RepA F vs ds) : Ctx F H (L2.start N vs) (startD N ds) := by
  refine ⟨s, fun i d h => ?_⟩
  unfold startD at h
  unfold L2.start
  by_cases hi : i < ds.length
  · rw [List.getElem?_append_left (by simpa using hi), List.getElem?_map] at h
    obtain ⟨d', h1, h2⟩ := Option.map_eq_some_iff.mp h
    cases h2
    obtain ⟨v, hv, rv⟩ := r.get h1
    refine ⟨v, ?_, rv⟩
    rw [List.getElem?_append_left (by rw [List.length_map, r.length]; exact hi), List.getElem?_map, hv]
    rfl
  · rw [List.getElem?_append_right (by simpa using hi), List.getElem?_replicate] at h
    split at h <;> cases h
theorem startD_len {N : List Str} {ds : List Dt} (h : ds.length ≤ N.length) : (startD N ds).length ≤ N.length := by
  unfold startD
  rw [List.length_append, List.length_map, List.length_replicate]
  omega
abbrev cx0 (P : Program) (w : World) (K : PySem.W.Frag) (mg : Str → Option Value) (base : Heap) (N : List Str) (qual : Str) (sc : Scope) (f : Addr) (cd : Value) (A : Around) (outer : List Env) (s : Shared) (H : Hp) (E : XK) : Cx := (cxOf CX0 P w K mg base N qual sc f cd A outer s H E).nox
abbrev cx1 (P : Program) (w : World) (K : PySem.W.Frag) (mg : Str → Option Value) (base : Heap) (N : List Str) (qual : Str) (sc : Scope) (f : Addr) (cd : Value) (A : Around) (outer : List Env) (s : Shared) (H : Hp) (E : XK) : Cx := cxOf (L2.CX P w) P w K mg base N qual sc f cd A outer s H E
section
variable {P : Program} {w : World} {K : PySem.W.Frag} {mg : Str → Option Value} {base : Heap} {x qual : Str} {st : Stmt} {f : Addr} {fd : FuncData} {N ps : List Str} {k : Nat} {pre : Hp → List Dt → Res → Prop}
/-- the end of a def's block -/
def EndD (o : Out) (d : Dt) : Prop := o = .ret d ∨ ((∃ δ, o = .nx δ) ∧ d = .non)
theorem FnScope.len_le (S : FnScope N ps (defScope st)) : ps.length ≤ N.length := by
  have := congrArg List.length S.pre
  rw [List.length_take] at this
  omega
theorem fn_D (F : Fun K x qual st f fd) (S : FnScope N ps (defScope st)) (len : ∀ F ds r, pre F ds r → ds.length = ps.length) (ne : ∀ F ds C, ¬ pre F ds (.err C))
    (body : ∀ (cdv : Value) (A : Around) (outer : List Env) (s : Shared) (H : Hp) (E : XK) (F : Hp) (ds : List Dt) (d : Dt), Room k (A.deeper (envOfC qual (defScope st) s.heap.objs.size f cdv)) → pre F ds (.ok d) →
      ∃ o, SD (cx0 P w K mg base N qual (defScope st) f cdv A outer s H E) F (defBody st) (startD N ds) o ∧ EndD o d) : FnOk P w K mg base CX0 (k + 1) f fd ps (spR pre) := by
  refine F.ok S (fun vs H Q E h => ?_) (fun cdv A outer s H vs Q E hr h => ?_)
  · obtain ⟨F, ds, r, _, ra, hp, _⟩ := h
    rw [ra.length, len F ds r hp]
  · obtain ⟨F, ds, r, sF, ra, hp, q⟩ := h
    cases r with
    | err C => exact absurd hp (ne F ds C)
    | ok d =>
      obtain ⟨o, h1, h2⟩ := body cdv A outer s H E F ds d hr hp
      refine ⟨_, pss, h1 F H (L2.start N vs) _ (fun _ _ _ _ => False) (Same.refl F) takes0 (start_ctx sF ra) (startD_len (by rw [len F ds _ hp]; exact FnScope.len_le S)) ?_⟩
      rcases h2 with rfl | ⟨⟨δ, rfl⟩, rfl⟩
      · exact q
      · exact fun F' H' σ' e' c' => q .non F' H' e' .non
theorem fn_X (F : Fun K x qual st f fd) (S : FnScope N ps (defScope st)) (len : ∀ F ds r, pre F ds r → ds.length = ps.length)
    (body : ∀ (cdv : Value) (A : Around) (outer : List Env) (s : Shared) (H : Hp) (E : XK) (F : Hp) (ds : List Dt) (r : Res), Room k (A.deeper (envOfC qual (defScope st) s.heap.objs.size f cdv)) → pre F ds r →
      ∃ o, SD (cx1 P w K mg base N qual (defScope st) f cdv A outer s H E) F (defBody st) (startD N ds) o ∧ (match r with | .ok d => EndD o d | .err C => o = .err C)) : FnOk P w K mg base (L2.CX P w) (k + 1) f fd ps (spR pre) := by
  refine F.okX S (fun vs H Q E h => ?_) (fun cdv A outer s H vs Q E hr h => ?_)
  · obtain ⟨F, ds, r, _, ra, hp, _⟩ := h
    rw [ra.length, len F ds r hp]
  · obtain ⟨F, ds, r, sF, ra, hp, q⟩ := h
    obtain ⟨o, h1, h2⟩ := body cdv A outer s H E F ds r hr hp
    refine ⟨_, pss, h1 F H (L2.start N vs) _ (fun cls d _ H => E cls d H) (Same.refl F) (takes_of rfl rfl rfl rfl) (start_ctx sF ra) (startD_len (by rw [len F ds _ hp]; exact FnScope.len_le S)) ?_⟩
    cases r with
    | ok d =>
      rcases h2 with rfl | ⟨⟨δ, rfl⟩, rfl⟩
      · exact q
      · exact fun F' H' σ' e' c' => q .non F' H' e' .non
    | err C =>
      cases h2
      exact fun F' H' σ' e' => q F' H' e'
theorem Cal.mk' {cx : CXT} {sp : Sp} (F : Fun K x qual st f fd) (G : FnOk P w K mg base cx k f fd ps sp) (hm : mg x = some (.ref f)) (hb : Binds K fd ps []) : Cal P w K mg base cx k x sp := ⟨f, fd, ps, G, hm, F.kp, hb⟩
end
section
variable {X : Cx} {F : Hp} {δ δ1 : Sl} {e a b c tg iter : Expr} {es : List Expr} {d x y z : Dt} {ds : List Dt} {st body els rest : List Stmt} {o : Out} {pos p apos : Pos} {n : Str} {i j : Str}
/-! ### texts' methods -/
theorem d_lower (h : EvD X F e δ (.str i)) (hz : i.length ≤ 5592405) (hbase : attributeBase e "lower" X.env (eval e X.env) = eval e X.env := by rfl) (hline : (apos.endLine == pos.line) = true := by rfl) :
    EvD X F (.Call (.Attribute e "lower" apos) [] [] pos) δ (.str (Txt.lower i)) := fun F1 H σ Q s c k => we (pe_lower pe hbase hline) (h F1 H σ _ s c fun v F2 H2 e2 r2 => by
  cases r2
  exact ⟨⟨i, rfl⟩, i, rfl, rfl, hz, k _ F2 H2 e2 (.str _)⟩)
theorem d_upper (h : EvD X F e δ (.str i)) (hz : i.length ≤ 5592405) (hbase : attributeBase e "upper" X.env (eval e X.env) = eval e X.env := by rfl) (hline : (apos.endLine == pos.line) = true := by rfl) :
    EvD X F (.Call (.Attribute e "upper" apos) [] [] pos) δ (.str (Txt.upper i)) := fun F1 H σ Q s c k => we (pe_upper pe hbase hline) (h F1 H σ _ s c fun v F2 H2 e2 r2 => by
  cases r2
  exact ⟨⟨i, rfl⟩, i, rfl, rfl, hz, k _ F2 H2 e2 (.str _)⟩)
theorem d_join {ts : List Str} (h : EvD X F e δ (.str i)) (ha : EvD X F a δ (.lst (ts.map .str))) (hz : (ts.map fun t => t.length).sum + ts.length * i.length ≤ 16777216) (hs : starEach [a] X.env = [(false, eval a X.env)] := by rfl) (hbase : attributeBase e "join" X.env (eval e X.env) = eval e X.env := by rfl) (hline : (apos.endLine == pos.line) = true := by rfl) :
    EvD X F (.Call (.Attribute e "join" apos) [a] [] pos) δ (.str (Txt.join i ts)) := fun F1 H σ Q s c k => we (pe_join pe pe hs hbase hline) (h F1 H σ _ s c fun v F2 H2 e2 r2 => by
  cases r2
  refine ⟨⟨i, rfl⟩, ha F2 H2 σ _ (s.trans e2.ff) (c.ext e2) fun v F3 H3 e3 r3 => ?_⟩
  cases r3 with
  | lst hp ra =>
    have q := ra.strs ts
    subst q
    exact ⟨i, _, ts, rfl, rfl, .inl (SqL.of (e3.sub _ _ hp)), hz, k _ F3 H3 (e2.trans e3) (.str _)⟩)
theorem d_isB {p q : Bool} (ha : EvD X F a δ (.bl p)) (hb : EvD X F b δ (.bl q)) : EvD X F (.Compare a [.Is] [b] pos) δ (.bl (decide (p = q))) := d_cmp op_isBl ha hb fun F1 H vx vy Q s s1 rx ry k => by
  cases rx; cases ry
  exact ⟨p, q, rfl, rfl, k _ F1 H (.refl s1) (.bl _)⟩
theorem d_notB {p q : Bool} (ha : EvD X F a δ (.bl p)) (hb : EvD X F b δ (.bl q)) : EvD X F (.Compare a [.IsNot] [b] pos) δ (.bl (!decide (p = q))) := d_cmp op_notBl ha hb fun F1 H vx vy Q s s1 rx ry k => by
  cases rx; cases ry
  exact ⟨p, q, rfl, rfl, k _ F1 H (.refl s1) (.bl _)⟩
/-- a < b < c: chains -/
theorem d_chain {op op' : CmpOp} {r r' : R2} {pos : Pos} {k : Bool} (ho : OpR X (compareOp op) r) (ho' : OpR X (compareOp op') r') (ha : EvD X F a δ x) (hb : EvD X F b δ y) (hc : EvD X F c δ z) (hr : RD F r x y (.bl k)) (hr' : k = true → RD F r' y z d) (h0 : k = false → d = .bl false)
    (hm : lastMarks [op, op'] [b, c] = false := by rfl) : EvD X F (.Compare a [op, op'] [b, c] pos) δ d := fun F1 H σ Q s cc q =>
  we (pe_chain ho ho' pe pe pe hm) (ha F1 H σ _ s cc fun v F2 H2 e2 r2 => hb F2 H2 σ _ (s.trans e2.ff) (cc.ext e2) fun u F3 H3 e3 r3 =>
    hr F3 H3 v u _ ((s.trans e2.ff).trans e3.ff) e3.sub (r2.mono e3.ff) r3 fun w F4 H4 e4 r4 => by
      cases r4
      refine ⟨k, rfl, ?_⟩
      by_cases hk : k = true
      · subst hk
        refine hc F4 H4 σ _ (((s.trans e2.ff).trans e3.ff).trans e4.ff) (((cc.ext e2).ext e3).ext e4) fun w F5 H5 e5 r5 => ?_
        exact hr' rfl F5 H5 u w Q ((((s.trans e2.ff).trans e3.ff).trans e4.ff).trans e5.ff) e5.sub ((r3.mono e4.ff).mono e5.ff) r5 fun v F6 H6 e6 r6 => q v F6 H6 ((((e2.trans e3).trans e4).trans e5).trans e6) r6
      · have hk' : k = false := by simpa using hk
        subst hk'
        exact q _ F4 H4 ((e2.trans e3).trans e4) (by rw [h0 rfl]; exact .bl false))
theorem last_le {op op' : CmpOp} {b c : Expr} (h : op' ≠ .In := by decide) (h2 : op' ≠ .NotIn := by decide) : lastMarks [op, op'] [b, c] = false := nomark c h h2
theorem rd_leS : RD F (fun x y H Q => ∃ i j, x = .str i ∧ y = .str j ∧ Q (.bl (!decide (j.cps.toList < i.cps.toList))) H) (.str i) (.str j) (.bl (!decide (j.cps.toList < i.cps.toList))) := fun F1 H vx vy Q s s1 rx ry k => by
  cases rx; cases ry
  exact ⟨i, j, rfl, rfl, k _ F1 H (.refl s1) (.bl _)⟩
theorem d_chain_leS (ha : EvD X F a δ (.str i)) (hb : EvD X F b δ (.str j)) {l : Str} (hc : EvD X F c δ (.str l)) : EvD X F (.Compare a [.LtE, .LtE] [b, c] pos) δ (.bl ((!decide (j.cps.toList < i.cps.toList)) && (!decide (l.cps.toList < j.cps.toList)))) := by
  refine d_chain op_le_str op_le_str ha hb hc rd_leS (fun hk => ?_) (fun hk => ?_) last_le
  · rw [hk]; exact rd_leS
  · rw [hk]; rfl
theorem d_chain_le {i j l : Int} (ha : EvD X F a δ (.int i)) (hb : EvD X F b δ (.int j)) (hc : EvD X F c δ (.int l)) : EvD X F (.Compare a [.LtE, .LtE] [b, c] pos) δ (.bl (decide (i ≤ j) && decide (j ≤ l))) := by
  refine d_chain op_le op_le ha hb hc (rd_I0 fun _ => .bl _) (fun hk => ?_) (fun hk => ?_) last_le
  · rw [hk]; exact rd_I0 fun _ => .bl _
  · rw [hk]; rfl
/-- a, b = x, y -/
theorem s_par (i j : Nat) {nx ny : Str} {px py pt pt2 : Pos} {kt k2} (ha : EaD X F [a, b] δ [x, y]) (hr : SD X F rest ((δ.set i (some x)).set j (some y)) o) (hc : X.calm = true) (hN : X.N.Nodup) (hi : X.N[i]? = some nx := by rfl) (hj : X.N[j]? = some ny := by rfl) (hij : i ≠ j := by decide)
    (hx : X.env.scope.names.lookup nx = some .local := by rfl) (hy : X.env.scope.names.lookup ny = some .local := by rfl)
    (hw : swappedStores [.Tuple [.Name nx px, .Name ny py] kt pt] (.Tuple [a, b] k2 pt2) X.env = pure (some [nx, ny]) := by rfl)
    (hs : swapsWithSole [.Tuple [.Name nx px, .Name ny py] kt pt] (.Tuple [a, b] k2 pt2) pos.line X.env = pure false := by rfl) :
    SD X F (.Assign [.Tuple [.Name nx px, .Name ny py] kt pt] (.Tuple [a, b] k2 pt2) pos :: rest) δ o := fun F1 H σ D W s t c l p => WSs.len fun hl =>
  wss (pss_cons (ps_par hc hN hi hj hij hx hy pa hw hs) pss) (ha F1 H σ _ s c fun vs F2 H2 e2 r2 => by
    cases r2 with
    | cons r1 r2 =>
      cases r2 with
      | cons r2 r3 =>
        cases r3
        exact ⟨_, _, rfl, hr F2 H2 _ D W (s.trans e2.ff) t (((c.ext e2).set (by omega) i r1).set (by rw [List.length_set, List.length_set]; omega) j r2) (by rw [List.length_set, List.length_set]; exact l) (p.ext e2)⟩)
end
end G

set_option Elab.async false
set_option linter.all false
set_option maxRecDepth 100000
set_option maxHeartbeats 4000000
namespace G
open PySem PySem.Spec PyProof.Rows L2
section
variable {X : Cx} {F : Hp} {δ δ1 : Sl} {e a b c tg iter : Expr} {es : List Expr} {d x y z : Dt} {ds : List Dt} {pos p apos : Pos}
/-! ### comparisons as tests -/
theorem t_cmp {op : CmpOp} {r : R2} {k : Bool} (ho : OpR X (compareOp op) r) (ha : EvD X F a δ x) (hb : EvD X F b δ y) (hr : RD F r x y (.bl k)) (hm : behindInMarks op b = false := by first | exact nomark _ | rfl) : EtD X F (.Compare a [op] [b] pos) δ k := fun F1 H σ Q s c q =>
  wt (pt_cmpR ho pe pe hm) (ha F1 H σ _ s c fun v F2 H2 e2 r2 => hb F2 H2 σ _ (s.trans e2.ff) (c.ext e2) fun u F3 H3 e3 r3 =>
    hr F3 H3 v u _ ((s.trans e2.ff).trans e3.ff) e3.sub (r2.mono e3.ff) r3 fun w F4 H4 e4 r4 => by
      cases r4
      exact ⟨k, rfl, q F4 H4 ((e2.trans e3).trans e4)⟩)
section
variable {i j : Int}
theorem t_lt (ha : EvD X F a δ (.int i)) (hb : EvD X F b δ (.int j)) : EtD X F (.Compare a [.Lt] [b] pos) δ (decide (i < j)) := t_cmp op_lt ha hb (rd_I0 fun _ => .bl _)
theorem t_le (ha : EvD X F a δ (.int i)) (hb : EvD X F b δ (.int j)) : EtD X F (.Compare a [.LtE] [b] pos) δ (decide (i ≤ j)) := t_cmp op_le ha hb (rd_I0 fun _ => .bl _)
theorem t_gt (ha : EvD X F a δ (.int i)) (hb : EvD X F b δ (.int j)) : EtD X F (.Compare a [.Gt] [b] pos) δ (decide (j < i)) := t_cmp op_gt ha hb (rd_I0 fun _ => .bl _)
theorem t_ge (ha : EvD X F a δ (.int i)) (hb : EvD X F b δ (.int j)) : EtD X F (.Compare a [.GtE] [b] pos) δ (decide (j ≤ i)) := t_cmp op_ge ha hb (rd_I0 fun _ => .bl _)
end
theorem t_eq (ha : EvD X F a δ x) (hb : EvD X F b δ y) (h : scD x y = true := by rfl) : EtD X F (.Compare a [.Eq] [b] pos) δ (sameD x y) := t_cmp op_eq ha hb (rd_eq h)
theorem t_ne (ha : EvD X F a δ x) (hb : EvD X F b δ y) (h : scD x y = true := by rfl) : EtD X F (.Compare a [.NotEq] [b] pos) δ (!sameD x y) := t_cmp op_ne ha hb (rd_ne h)
theorem t_isN {j p} (ha : EvD X F a δ x) {k : Bool} (hk : ∀ F v, Rep F v x → decide (v = .non) = k) : EtD X F (.Compare a [.Is] [.Constant .none j p] pos) δ k := fun F1 H σ Q s c q =>
  wt (pt_cmp (pc_isN pe)) (ha F1 H σ _ s c fun v F2 H2 e2 r2 => ⟨k, by rw [hk F2 v r2], q F2 H2 e2⟩)
theorem t_notN {j p} (ha : EvD X F a δ x) {k : Bool} (hk : ∀ F v, Rep F v x → decide (v = .non) = k) : EtD X F (.Compare a [.IsNot] [.Constant .none j p] pos) δ (!k) := fun F1 H σ Q s c q =>
  wt (pt_cmp (pc_notN pe)) (ha F1 H σ _ s c fun v F2 H2 e2 r2 => ⟨!k, by rw [hk F2 v r2], q F2 H2 e2⟩)
/-- whether a datum is None -/
def isNon : Dt → Bool
  | .non => true
  | _ => false
theorem isNon_of : ∀ (x : Dt) F v, Rep F v x → decide (v = .non) = isNon x := fun x F v r => by
  cases r <;> rfl
theorem t_isN' {j p} (ha : EvD X F a δ x) : EtD X F (.Compare a [.Is] [.Constant .none j p] pos) δ (isNon x) := t_isN ha (isNon_of x)
theorem t_notN' {j p} (ha : EvD X F a δ x) : EtD X F (.Compare a [.IsNot] [.Constant .none j p] pos) δ (!isNon x) := t_notN ha (isNon_of x)
theorem d_isN' {j p} (ha : EvD X F a δ x) : EvD X F (.Compare a [.Is] [.Constant .none j p] pos) δ (.bl (isNon x)) := d_isN ha (isNon_of x)
theorem d_notN' {j p} (ha : EvD X F a δ x) : EvD X F (.Compare a [.IsNot] [.Constant .none j p] pos) δ (.bl (!isNon x)) := d_notN ha (isNon_of x)
section
variable {i j : Str}
theorem rd_ltS : RD F (fun x y H Q => ∃ i j, x = .str i ∧ y = .str j ∧ Q (.bl (decide (i.cps.toList < j.cps.toList))) H) (.str i) (.str j) (.bl (decide (i.cps.toList < j.cps.toList))) := fun F1 H vx vy Q s s1 rx ry k => by
  cases rx; cases ry
  exact ⟨i, j, rfl, rfl, k _ F1 H (.refl s1) (.bl _)⟩
theorem t_leS (ha : EvD X F a δ (.str i)) (hb : EvD X F b δ (.str j)) : EtD X F (.Compare a [.LtE] [b] pos) δ (!decide (j.cps.toList < i.cps.toList)) := t_cmp op_le_str ha hb rd_leS
theorem t_ltS (ha : EvD X F a δ (.str i)) (hb : EvD X F b δ (.str j)) : EtD X F (.Compare a [.Lt] [b] pos) δ (decide (i.cps.toList < j.cps.toList)) := t_cmp op_lt_str ha hb rd_ltS
theorem rd_inS {c : Nat} : RD F (fun x y H Q => ∃ (c : Nat) (z : Str), x = .str ⟨#[c]⟩ ∧ y = .str z ∧ Q (.bl (decide (c ∈ z.cps.toList))) H) (.str ⟨#[c]⟩) (.str j) (.bl (decide (c ∈ j.cps.toList))) := fun F1 H vx vy Q s s1 rx ry k => by
  cases rx; cases ry
  exact ⟨c, j, rfl, rfl, k _ F1 H (.refl s1) (.bl _)⟩
theorem t_inS {c : Nat} (ha : EvD X F a δ (.str ⟨#[c]⟩)) (hb : EvD X F b δ (.str j)) (hm : behindInMarks .In b = false := by rfl) : EtD X F (.Compare a [.In] [b] pos) δ (decide (c ∈ j.cps.toList)) := t_cmp op_in_sign ha hb rd_inS hm
end
theorem t_isB {p q : Bool} (ha : EvD X F a δ (.bl p)) (hb : EvD X F b δ (.bl q)) : EtD X F (.Compare a [.Is] [b] pos) δ (decide (p = q)) := t_cmp op_isBl ha hb fun F1 H vx vy Q s s1 rx ry k => by
  cases rx; cases ry
  exact ⟨p, q, rfl, rfl, k _ F1 H (.refl s1) (.bl _)⟩
theorem t_notB {p q : Bool} (ha : EvD X F a δ (.bl p)) (hb : EvD X F b δ (.bl q)) : EtD X F (.Compare a [.IsNot] [b] pos) δ (!decide (p = q)) := t_cmp op_notBl ha hb fun F1 H vx vy Q s s1 rx ry k => by
  cases rx; cases ry
  exact ⟨p, q, rfl, rfl, k _ F1 H (.refl s1) (.bl _)⟩
theorem t_chain {op op' : CmpOp} {r r' : R2} {k k' : Bool} (ho : OpR X (compareOp op) r) (ho' : OpR X (compareOp op') r') (ha : EvD X F a δ x) (hb : EvD X F b δ y) (hc : EvD X F c δ z) (hr : RD F r x y (.bl k)) (hr' : k = true → RD F r' y z (.bl k')) (h0 : k = false → k' = false)
    (hm : lastMarks [op, op'] [b, c] = false := by rfl) : EtD X F (.Compare a [op, op'] [b, c] pos) δ k' := fun F1 H σ Q s cc q =>
  wt (pt_chain ho ho' pe pe pe hm) (ha F1 H σ _ s cc fun v F2 H2 e2 r2 => hb F2 H2 σ _ (s.trans e2.ff) (cc.ext e2) fun u F3 H3 e3 r3 =>
    hr F3 H3 v u _ ((s.trans e2.ff).trans e3.ff) e3.sub (r2.mono e3.ff) r3 fun w F4 H4 e4 r4 => by
      cases r4
      refine ⟨k, rfl, ?_⟩
      by_cases hk : k = true
      · subst hk
        refine hc F4 H4 σ _ (((s.trans e2.ff).trans e3.ff).trans e4.ff) (((cc.ext e2).ext e3).ext e4) fun w F5 H5 e5 r5 => ?_
        exact hr' rfl F5 H5 u w _ ((((s.trans e2.ff).trans e3.ff).trans e4.ff).trans e5.ff) e5.sub ((r3.mono e4.ff).mono e5.ff) r5 fun v F6 H6 e6 r6 => by
          cases r6
          exact ⟨k', rfl, q F6 H6 ((((e2.trans e3).trans e4).trans e5).trans e6)⟩
      · have hk' : k = false := by simpa using hk
        subst hk'
        have := h0 rfl
        subst this
        exact ⟨false, rfl, q F4 H4 ((e2.trans e3).trans e4)⟩)
theorem t_chain_le {i j l : Int} (ha : EvD X F a δ (.int i)) (hb : EvD X F b δ (.int j)) (hc : EvD X F c δ (.int l)) : EtD X F (.Compare a [.LtE, .LtE] [b, c] pos) δ (decide (i ≤ j) && decide (j ≤ l)) := by
  refine t_chain op_le op_le ha hb hc (rd_I0 fun _ => .bl _) (fun hk => ?_) (fun hk => ?_) last_le
  · rw [hk]; exact rd_I0 fun _ => .bl _
  · rw [hk]; rfl
/-! ### one statement -/
def S1 (X : Cx) (F : Hp) (st : Stmt) (δ : Sl) (o : Out) : Prop := ∀ (F1 H : Hp) (σ : L2.St) (D : Ends) (W : WX), Same F F1 → Takes X W → Ctx F1 H σ δ → δ.length ≤ X.N.length → Post F1 H D W o → WS X st D σ H
section
variable {st : Stmt} {rest body els : List Stmt} {o : Out}
theorem s_seq (h : S1 X F st δ (.nx δ1)) (hr : SD X F rest δ1 o) (hl : δ1.length ≤ δ.length := by exact Nat.le_refl _) : SD X F (st :: rest) δ o := fun F1 H σ D W s t c l p =>
  wss (pss_cons ps pss) (h F1 H σ _ W s t c l fun F' H' σ' e' c' => hr F' H' σ' D W (s.trans e'.ff) t c' (Nat.le_trans hl l) (p.ext e'))
theorem s_out (h : S1 X F st δ o) (hn : ∀ δ', o ≠ .nx δ') : SD X F (st :: rest) δ o := fun F1 H σ D W s t c l p =>
  wss (pss_cons ps pss) (h F1 H σ _ W s t c l (by
    cases o with
    | nx δ' => exact absurd rfl (hn δ')
    | ret d => exact p
    | brk d => exact p
    | ct d => exact p
    | err d => exact p))
theorem if1 {k : Bool} (hc : EtD X F c δ k) (h1 : k = true → SD X F body δ o) (h2 : k = false → SD X F els δ o) : S1 X F (.If c body els pos) δ o := fun F1 H σ D W s t cc l p =>
  ws (ps_if pt pss pss) (hc F1 H σ _ s cc fun F2 H2 e2 => by
    cases k with
    | true => exact h1 rfl F2 H2 σ D W (s.trans e2.ff) t (cc.ext e2) l (p.ext e2)
    | false => exact h2 rfl F2 H2 σ D W (s.trans e2.ff) t (cc.ext e2) l (p.ext e2))
end
end
end G

set_option Elab.async false
set_option linter.all false
set_option maxRecDepth 100000
set_option maxHeartbeats 4000000
namespace G
open PySem PySem.Spec PyProof.Rows L2
/-! ### the head's facts -/
def dd (x : Str) (st : Stmt) : He.DefD := ⟨(x, none), x, x, defArgs st, defBody st, defScope st, [], []⟩
def dm (C m qual : Str) (st : Stmt) : He.DefD := ⟨(C, some m), m, qual, defArgs st, defBody st, defScope st, [], []⟩
theorem fun_of {K : PySem.W.Frag} {x qual : Str} {st : Stmt} {f : Addr} {fd : FuncData} (F : FunD K x qual (defArgs st) (defBody st) (defScope st) [] [] f fd) : Fun K x qual st f fd := by
  obtain ⟨oc, od, dV, kV, doc, pm, an, cdv, ct, osl, rfl, lk, hcd, hD, hK⟩ := F.ex
  rcases hD with ⟨_, rfl⟩ | ⟨e, _⟩
  · exact ⟨⟨oc, od, kV, doc, pm, an, cdv, ct, osl, rfl, lk, hcd⟩, F.kp⟩
  · exact absurd rfl e
/-- a law as a pure def -/
theorem law_ends {l : PySem.W.OpenLaw} {k : Nat} {q : Program} {loose : List Str} {XP : (Str → Option Value) → Heap → Prop} {YP : World → Heap → Prop} {d : DefRec} {x : Str} {pre : PySem.W.Frag → Hp → List Dt → Res → Prop}
    (hn : l.most = some 63) (hdf : d.params.defaults = []) (hr : Room k callerA)
    (hpre : ∀ (K : PySem.W.Frag) (F : Hp) (a : Addr) (ns : List Int), ns.length ≤ 63 → SqL K F a (ns.map V.int) → pre K F [.ref a] (.ok (.bl true)))
    (F : ∀ (w : World) (mg : Str → Option Value) (fa : Addr) (h : Heap), YP w h → h.Ns mainGlobals mg → mg d.name = some (.ref fa) →
      ∃ (K : PySem.W.Frag) (fd : FuncData), K.In h ∧ (∀ (s : Shared) (u : Value), BindsTo s fd ⟨[u], []⟩ [(x, u)]) ∧ ∀ base : Heap, K.In base → base.Ns mainGlobals mg → FnOk l.prog w K mg base CX0 k fa fd [x] (spR (pre K))) :
    PySem.W.WalkO q loose XP YP l.row.toRowW d [] (fun f vs => PySem.call f vs) := by
  refine L2.walk_ofE (l := l) (n := 63) (k := k) (x := x) (CX := CX0) hn (by decide) hdf hr (fun w mg fa h Y G hmg => ?_) (fun _ _ _ _ z => z)
  obtain ⟨K, fd, KX, hb, hF⟩ := F w mg fa h Y G hmg
  refine ⟨K, fd, spR (pre K), KX, hb, fun H a ns hl _ hS => ?_, hF⟩
  exact ⟨H, [.ref a], .ok (.bl true), Same.refl H, .cons (.ref a) .nil, hpre K H a ns hl hS, fun v F' H' _ r => by cases r; rfl⟩
/-- a def of the top as the head's facts tell it -/
structure At (K : PySem.W.Frag) (mg : Str → Option Value) (x : Str) (st : Stmt) (ps : List Str) (f : Addr) (fd : FuncData) : Prop where
  fn : Fun K x x st f fd
  mg : mg x = some (.ref f)
  bi : Binds K fd ps []
theorem at_of {fa : List He.Fa} {fn : List He.DefD} {K : PySem.W.Frag} {h : Heap} {mg : Str → Option Value} (X : K.In h) (G : h.Ns mainGlobals mg) (c : He.SaysD fa fn K) (i j : Nat) {x : Str} {st : Stmt} {ps : List Str} (h1 : fn[i]? = some (dd x st)) (h2 : fa[j]? = some (.glo x))
    (hb : ∀ (kV doc pm : Value) (an : Option Addr) (cdv ct : Value) (us : List Value), us.length = ps.length → bindArgs (PySem.W.fnOf x x (defArgs st) (defBody st) (defScope st) .none kV doc pm an cdv ct) ⟨us, []⟩ = pure (ps.zip us)) :
    ∃ fd, At K mg x st ps (He.ga K x) fd := by
  obtain ⟨fd, F⟩ := c.def_ i h1
  have F' : Fun K x x st (He.ga K x) fd := fun_of F
  exact ⟨fd, F', He.glo_ok X G (c.fact j h2), F'.binds hb⟩
theorem At.cal {P : Program} {w : World} {K : PySem.W.Frag} {mg : Str → Option Value} {base : Heap} {x : Str} {st : Stmt} {ps : List Str} {f : Addr} {fd : FuncData} {cx : CXT} {k : Nat} {sp : Sp} (a : At K mg x st ps f fd) (g : FnOk P w K mg base cx k f fd ps sp) : Cal P w K mg base cx k x sp := Cal.mk' a.fn g a.mg a.bi
/-- one binding lemma for defs without defaults -/
theorem binds_of {K : PySem.W.Frag} {x qual : Str} {st : Stmt} {f : Addr} {fd : FuncData} {ps : List Str} (F : Fun K x qual st f fd)
    (h : ∀ (kV doc pm : Value) (an : Option Addr) (cdv ct : Value) (us : List Value), us.length = ps.length → bindArgs (PySem.W.fnOf x qual (defArgs st) (defBody st) (defScope st) .none kV doc pm an cdv ct) ⟨us, []⟩ = pure (ps.zip us)) : Binds K fd ps [] := F.binds h
end G

set_option Elab.async false
set_option linter.all false
set_option maxRecDepth 100000
set_option maxHeartbeats 4000000
namespace G
open PySem PySem.Spec PyProof.Rows L2
section
variable {X : Cx} {F : Hp} {δ : Sl} {e a b : Expr} {pos p : Pos}
/-! ### the script, a list that was handed in -/
theorem same_sq {K : PySem.W.Frag} {F H : Hp} {a : Addr} {xs : List V} (s : Same F H) (h : SqL K F a xs) : SqL K H a xs := s.seq h
theorem d_lenQ {l : Addr} {xs : List V} (hm : X.mg "len" = none) (h : EvD X F e δ (.ref l)) (hq : SqL X.K F l xs) (hg : Gl X "len" := by rfl) (he : starEach [e] X.env = (false, eval e X.env) :: starEach [] X.env := by rfl) (hpl : (backTo pos (starEach [] X.env)).any (·.1) = false := by rfl) :
    EvD X F (.Call (.Name "len" p) [e] [] pos) δ (.int (xs.length : Nat)) := d_bf call_len_seq hm PySem.boot_len (a_one h he) (fun F1 H vs Q s s1 r q => by
  cases r with
  | cons r1 r2 =>
    cases r2
    cases r1
    exact ⟨_, _, rfl, .inl (same_sq (s.trans s1) hq), q _ F1 H (.refl s1) (.int _)⟩) hg (by decide) (by decide) he hpl
theorem d_ixQ {l : Addr} {xs : List V} {k : Int} {i : Int} (ha : EvD X F a δ (.ref l)) (hb : EvD X F b δ (.int k)) (hq : SqL X.K F l xs) (h : atI xs k = some (.int i)) (hs : PlainIx b := by exact fun _ _ => rfl) : EvD X F (.Subscript a b pos) δ (.int i) := d_ixR ix_list ha hb (fun F1 H vx vy Q s s1 rx ry q => by
  cases rx; cases ry
  exact ⟨_, _, k, _, rfl, rfl, same_sq (s.trans s1) hq, h, q _ F1 H (.refl s1) (.int _)⟩) hs
end
/-! ### cells, signs -/
def cell (ns : List Int) (k : Int) : Int := ns.getD k.toNat 0
def codes : List Nat := (List.range 5).map (32 + ·) ++ (List.range 89).map (38 + ·) ++ [10, 9]
def sgn (n : Int) : Nat := codes.getD (n % 96).toNat 0
theorem sgn_at {L : List Nat} (h : L = codes) (n : Int) : atI L (n % 96) = some (sgn n) := by
  subst h
  have h1 := Int.emod_nonneg n (show (96 : Int) ≠ 0 by decide)
  have h2 := Int.emod_lt_of_pos n (show (0 : Int) < 96 by decide)
  have e : codes.length = 96 := by decide
  have hlt : (n % 96).toNat < codes.length := by omega
  obtain ⟨m, hm⟩ : ∃ m : Nat, n % 96 = m := ⟨(n % 96).toNat, by omega⟩
  unfold sgn
  rw [hm]
  have : (m : Int).toNat = m := rfl
  rw [this]
  have hlt' : m < codes.length := by omega
  rw [show codes.getD m 0 = codes[m] by rw [List.getD_eq_getElem?_getD, List.getElem?_eq_getElem hlt']; rfl]
  exact atI_nat (List.getElem?_eq_getElem hlt')
def sg (c : Nat) : Str := ⟨#[c]⟩
theorem cell_some {ns : List Int} {k : Int} (h0 : 0 ≤ k) (h : k < (ns.length : Int)) : atI (ns.map V.int) k = some (.int (cell ns k)) := by
  obtain ⟨m, rfl⟩ : ∃ m : Nat, k = m := ⟨k.toNat, by omega⟩
  have hm : m < ns.length := by omega
  refine atI_nat ?_
  rw [List.getElem?_map, List.getElem?_eq_getElem hm]
  unfold cell
  show some (V.int ns[m]) = some (V.int (ns.getD m 0))
  rw [List.getD_eq_getElem?_getD, List.getElem?_eq_getElem hm]
  rfl
theorem cell_none {ns : List Int} {k : Int} (h0 : 0 ≤ k) (h : ¬ k < (ns.length : Int)) : cell ns k = 0 := by
  unfold cell
  rw [List.getD_eq_getElem?_getD, List.getElem?_eq_none (by omega)]
  rfl
end G
namespace Law
open PySem PySem.Spec PyProof.Rows L2 G
def top (i : Nat) : Stmt := PySem.Challenge.pw_grammarpack_k01_signs_taken.main.body.getD i (.Pass ⟨0, 0, 0, 0⟩)
abbrev sTakes : Stmt := top 1
abbrev sCell : Stmt := top 3
abbrev sSign : Stmt := top 4
abbrev sLaw : Stmt := top 5
/-! ### promises -/
def pCell (K : PySem.W.Frag) (F : Hp) (ds : List Dt) (r : Res) : Prop := ∃ (a : Addr) (ns : List Int) (k : Int), ds = [.ref a, .int k] ∧ r = .ok (.int (cell ns k)) ∧ SqL K F a (ns.map V.int) ∧ 0 ≤ k
def pSign (_ : Hp) (ds : List Dt) (r : Res) : Prop := ∃ n : Int, ds = [.int n] ∧ r = .ok (.str (sg (sgn n)))
section
variable {P : Program} {w : World} {K : PySem.W.Frag} {mg : Str → Option Value} {base : Heap} {f : Addr} {fd : FuncData}
theorem scCell : FnScope ["_law_script", "_law_k"] ["_law_script", "_law_k"] (defScope sCell) := ⟨rfl, rfl, rfl, by decide +kernel, rfl, by decide +kernel, by decide +kernel⟩
theorem ok_cell (Fn : Fun K "_law_cell_at" "_law_cell_at" sCell f fd) (ml : mg "len" = none) : FnOk P w K mg base CX0 1 f fd ["_law_script", "_law_k"] (spR (pCell K)) := by
  refine fn_D Fn scCell (fun F ds r h => ?_) (fun F ds C h => ?_) (fun cdv A outer s H E F ds d hr h => ?_)
  · obtain ⟨_, _, _, rfl, _⟩ := h; rfl
  · obtain ⟨_, _, _, _, h, _⟩ := h; cases h
  · obtain ⟨a, ns, k, rfl, hd, hq, h0⟩ := h
    cases hd
    refine ⟨_, ?_, .inl rfl⟩
    refine s_when (t_lt (d_v 1 rfl) (d_lenQ ml (d_v 0 rfl) hq)) (fun hk => ?_) (fun hk => ?_)
    · have hk' : k < (ns.length : Int) := by simpa using hk
      exact .out (s_ret (d_ixQ (d_v 0 rfl) (d_v 1 rfl) hq (cell_some h0 hk'))) (fun _ h => nomatch h)
    · have hk' : ¬ k < (ns.length : Int) := by simpa using hk
      rw [cell_none h0 hk']
      exact s_ret d_int
theorem scSign : FnScope ["_law_cell", "_law_some"] ["_law_cell"] (defScope sSign) := ⟨rfl, rfl, rfl, by decide +kernel, rfl, by decide +kernel, by decide +kernel⟩
theorem ok_sign (Fn : Fun K "_law_sign_by" "_law_sign_by" sSign f fd) : FnOk P w K mg base CX0 1 f fd ["_law_cell"] (spR pSign) := by
  refine fn_D Fn scSign (fun F ds r h => ?_) (fun F ds C h => ?_) (fun cdv A outer s H E F ds d hr h => ?_)
  · obtain ⟨_, rfl, _⟩ := h; rfl
  · obtain ⟨_, _, h⟩ := h; cases h
  · obtain ⟨n, rfl, hd⟩ := h
    cases hd
    refine ⟨_, ?_, .inl rfl⟩
    refine s_asg 1 d_str ?_ scSign.nd
    refine s_asg 1 (d_adds (d_v 1 rfl) d_str (by decide +kernel)) ?_ scSign.nd
    exact s_ret (d_ixS (d_v 1 rfl) (d_mod (d_v 0 rfl) d_int (by decide)) (by decide +kernel) (sgn_at (by decide +kernel) n))
theorem scTakes : FnScope ["part", "sign"] ["part", "sign"] (defScope sTakes) := ⟨rfl, rfl, rfl, by decide +kernel, rfl, by decide +kernel, by decide +kernel⟩
/-- a leaf takes a sign -/
inductive PTakes : Hp → List Dt → Res → Prop
  | any (F : Hp) (c : Nat) : PTakes F [.tup [.str "any"], .str (sg c)] (.ok (.bl true))
  | sign (F : Hp) (a c : Nat) : PTakes F [.tup [.str "sign", .str (sg a)], .str (sg c)] (.ok (.bl (decide (c = a))))
  | span (F : Hp) (a b c : Nat) : PTakes F [.tup [.str "span", .str (sg a), .str (sg b)], .str (sg c)] (.ok (.bl (decide (a ≤ c) && decide (c ≤ b))))
theorem sg_lt (a b : Nat) : (!decide ((sg b).cps.toList < (sg a).cps.toList)) = decide (a ≤ b) := by
  have : ([b] < [a]) ↔ b < a := by
    constructor
    · intro h
      cases h with
      | rel h => exact h
      | cons h => cases h
    · exact fun h => List.Lex.rel h
  show (!decide ([b] < [a])) = _
  by_cases h : b < a
  · rw [decide_eq_true (this.mpr h), decide_eq_false (by omega)]; rfl
  · rw [decide_eq_false (fun q => h (this.mp q)), decide_eq_true (by omega)]; rfl
theorem sg_eq (a b : Nat) : sameD (.str (sg a)) (.str (sg b)) = decide (a = b) := by
  show decide (sg a = sg b) = decide (a = b)
  by_cases h : a = b
  · subst h; simp
  · have : sg a ≠ sg b := fun q => h (by injection q with q; simpa using q)
    rw [decide_eq_false h, decide_eq_false this]
theorem ok_takes (Fn : Fun K "takes" "takes" sTakes f fd) : FnOk P w K mg base CX0 1 f fd ["part", "sign"] (spR PTakes) := by
  refine fn_D Fn scTakes (fun F ds r h => ?_) (fun F ds C h => ?_) (fun cdv A outer s H E F ds d hr h => ?_)
  · cases h <;> rfl
  · cases h
  · cases h with
    | any c => exact ⟨_, s_ifT ((t_eq (d_ixT (d_v 0 rfl) d_int rfl) d_str).to (by decide +kernel)) (.out (s_ret d_bl) (fun _ h => nomatch h)), .inl rfl⟩
    | sign a c =>
      refine ⟨_, s_no ((t_eq (d_ixT (d_v 0 rfl) d_int rfl) d_str).to (by decide +kernel)) (s_ifT ((t_eq (d_ixT (d_v 0 rfl) d_int rfl) d_str).to (by decide +kernel)) (.out (s_ret ((d_eq (d_v 1 rfl) (d_ixT (d_v 0 rfl) d_int rfl)).to (by rw [sg_eq]))) (fun _ h => nomatch h))), .inl rfl⟩
    | span a b c =>
      refine ⟨_, s_no ((t_eq (d_ixT (d_v 0 rfl) d_int rfl) d_str).to (by decide +kernel)) (s_no ((t_eq (d_ixT (d_v 0 rfl) d_int rfl) d_str).to (by decide +kernel)) (s_ret ((d_chain_leS (d_ixT (d_v 0 rfl) d_int rfl) (d_v 1 rfl) (d_ixT (d_v 0 rfl) d_int rfl)).to (by rw [sg_lt, sg_lt])))), .inl rfl⟩
theorem lower_sg : ∀ c, c ∈ codes → ∃ c', c' ∈ codes ∧ Txt.lower (sg c) = sg c' := by
  decide +kernel
theorem upper_sg : ∀ c, c ∈ codes → ∃ c', c' ∈ codes ∧ Txt.upper (sg c) = sg c' := by
  decide +kernel
theorem sgn_mem (n : Int) : sgn n ∈ codes := by
  have h1 := Int.emod_nonneg n (show (96 : Int) ≠ 0 by decide)
  have h2 := Int.emod_lt_of_pos n (show (0 : Int) < 96 by decide)
  have e : codes.length = 96 := by decide
  have hlt : (n % 96).toNat < codes.length := by omega
  unfold sgn
  rw [List.getD_eq_getElem?_getD, List.getElem?_eq_getElem hlt]
  exact List.getElem_mem hlt
/-- what law promises -/
def pLaw (K : PySem.W.Frag) (F : Hp) (ds : List Dt) (r : Res) : Prop := ∃ (a : Addr) (ns : List Int), ds = [.ref a] ∧ r = .ok (.bl true) ∧ SqL K F a (ns.map V.int)
theorem scLaw : FnScope ["_law_script", "_law_one", "_law_two", "_law_other", "_law_sign", "_law_kind", "_law_part", "_law_due", "_law_found"] ["_law_script"] (defScope sLaw) := ⟨rfl, rfl, rfl, by decide +kernel, rfl, by decide +kernel, by decide +kernel⟩
theorem cell_call {X : Cx} {F : Hp} {δ : Sl} {ns : List Int} {a : Addr} {e1 e2 : Expr} {p pos : Pos} {k : Int} (C : Cal X.prog X.w X.K X.mg X.base CX0 1 "_law_cell_at" (spR (pCell X.K))) (hr : Room 1 X.A) (h1 : EvD X F e1 δ (.ref a)) (h2 : EvD X F e2 δ (.int k)) (hq : SqL X.K F a (ns.map V.int)) (hk : 0 ≤ k)
    (hg : Gl X "_law_cell_at" := by rfl) (he1 : starEach [e1, e2] X.env = (false, eval e1 X.env) :: starEach [e2] X.env := by rfl) (he2 : starEach [e2] X.env = (false, eval e2 X.env) :: starEach [] X.env := by rfl) (hpl : (backTo pos (starEach [e2] X.env)).any (·.1) = false := by rfl) :
    EvD X F (.Call (.Name "_law_cell_at" p) [e1, e2] [] pos) δ (.int (cell ns k)) :=
  d_call C hr (a_cons h1 (a_one h2 he2) he1) (fun F1 s => ⟨a, ns, k, rfl, rfl, s.seq hq, hk⟩) hg pass0 (by decide) he1 hpl
theorem sign_call {X : Cx} {F : Hp} {δ : Sl} {n : Int} {e1 : Expr} {p pos : Pos} (C : Cal X.prog X.w X.K X.mg X.base CX0 1 "_law_sign_by" (spR pSign)) (hr : Room 1 X.A) (h1 : EvD X F e1 δ (.int n))
    (hg : Gl X "_law_sign_by" := by rfl) (he1 : starEach [e1] X.env = (false, eval e1 X.env) :: starEach [] X.env := by rfl) (hpl : (backTo pos (starEach [] X.env)).any (·.1) = false := by rfl) :
    EvD X F (.Call (.Name "_law_sign_by" p) [e1] [] pos) δ (.str (sg (sgn n))) :=
  d_call C hr (a_one h1 he1) (fun F1 s => ⟨n, rfl, rfl⟩) hg pass0 (by decide) he1 hpl
theorem ok_law (Fn : Fun K "law" "law" sLaw f fd) (C1 : Cal P w K mg base CX0 1 "_law_cell_at" (spR (pCell K))) (C2 : Cal P w K mg base CX0 1 "_law_sign_by" (spR pSign)) (C3 : Cal P w K mg base CX0 1 "takes" (spR PTakes)) (mo : mg "ord" = none) (mm : mg "min" = none) : FnOk P w K mg base CX0 2 f fd ["_law_script"] (spR (pLaw K)) := by
  refine fn_D Fn scLaw (fun F ds r h => ?_) (fun F ds C h => ?_) (fun cdv A outer s H E F ds d hr h => ?_)
  · obtain ⟨_, _, rfl, _⟩ := h; rfl
  · obtain ⟨_, _, _, h, _⟩ := h; cases h
  · obtain ⟨a, ns, rfl, hd, hq⟩ := h
    cases hd
    refine ⟨_, ?_, .inl rfl⟩
    refine s_asg 1 (sign_call C2 hr (cell_call C1 hr (d_v 0 rfl) d_int hq (by decide))) ?_ scLaw.nd
    refine s_asg 2 (sign_call C2 hr (cell_call C1 hr (d_v 0 rfl) d_int hq (by decide))) ?_ scLaw.nd
    generalize hb1 : sgn (cell ns 1) = b1
    generalize hb2 : sgn (cell ns 2) = b2
    have m1 : b1 ∈ codes := hb1 ▸ sgn_mem _
    have m2 : b2 ∈ codes := hb2 ▸ sgn_mem _
    obtain ⟨lo, hi, hlo, hhi, hsw⟩ : ∃ lo hi, lo ∈ codes ∧ hi ∈ codes ∧ (if b2 < b1 then lo = b2 ∧ hi = b1 else lo = b1 ∧ hi = b2) := by
      by_cases h : b2 < b1
      · exact ⟨b2, b1, m2, m1, by rw [if_pos h]; exact ⟨rfl, rfl⟩⟩
      · exact ⟨b1, b2, m1, m2, by rw [if_neg h]; exact ⟨rfl, rfl⟩⟩
    refine s_seq (δ1 := [some (.ref a), some (.str (sg lo)), some (.str (sg hi)), none, none, none, none, none, none]) (if1 (t_lt (d_ord mo (d_v 2 rfl)) (d_ord mo (d_v 1 rfl))) (fun hk => ?_) (fun hk => ?_)) ?_
    · have hk' : b2 < b1 := by have := of_decide_eq_true hk; omega
      rw [if_pos hk'] at hsw
      obtain ⟨rfl, rfl⟩ := hsw
      exact s_par 1 2 (a_cons (d_v 2 rfl) (a_one (d_v 1 rfl))) s_nil rfl scLaw.nd
    · have hk' : ¬ b2 < b1 := by have := of_decide_eq_false hk; omega
      rw [if_neg hk'] at hsw
      obtain ⟨rfl, rfl⟩ := hsw
      exact s_nil
    · refine s_asg 3 (sign_call C2 hr (cell_call C1 hr (d_v 0 rfl) d_int hq (by decide))) ?_ scLaw.nd
      generalize hb3 : sgn (cell ns 3) = b3
      have m3 : b3 ∈ codes := hb3 ▸ sgn_mem _
      obtain ⟨l1, ml1, el1⟩ := lower_sg lo hlo
      obtain ⟨u1, mu1, eu1⟩ := upper_sg lo hlo
      obtain ⟨c, mc, hc⟩ : ∃ c, c ∈ codes ∧ atI [Dt.str (sg lo), .str (sg hi), .str (sg l1), .str (sg u1), .str (sg b3)] (if cell ns 4 % 8 < 4 then cell ns 4 % 8 else 4) = some (.str (sg c)) := by
        have h1 := Int.emod_nonneg (cell ns 4) (show (8 : Int) ≠ 0 by decide)
        generalize cell ns 4 % 8 = q at h1
        by_cases h : q < 4
        · rw [if_pos h]
          have : q = 0 ∨ q = 1 ∨ q = 2 ∨ q = 3 := by omega
          rcases this with rfl | rfl | rfl | rfl
          · exact ⟨lo, hlo, rfl⟩
          · exact ⟨hi, hhi, rfl⟩
          · exact ⟨l1, ml1, rfl⟩
          · exact ⟨u1, mu1, rfl⟩
        · rw [if_neg h]
          exact ⟨b3, m3, rfl⟩
      refine s_asg 4 (d_ixL (d_lst (a_cons (d_v 1 rfl) (a_cons (d_v 2 rfl) (a_cons ((d_lower (d_v 1 rfl) (by show 1 ≤ 5592405; decide)).to (by rw [el1])) (a_cons ((d_upper (d_v 1 rfl) (by show 1 ≤ 5592405; decide)).to (by rw [eu1])) (a_one (d_v 3 rfl))))))) (d_min2 mm rfl (a_cons d_int (a_one (d_mod (cell_call C1 hr (d_v 0 rfl) d_int hq (by decide)) d_int (by decide))))) hc) ?_ scLaw.nd
      refine s_asg 5 (d_mod (cell_call C1 hr (d_v 0 rfl) d_int hq (by decide)) d_int (by decide)) ?_ scLaw.nd
      have k0 := Int.emod_nonneg (cell ns 0) (show (3 : Int) ≠ 0 by decide)
      have k3 := Int.emod_lt_of_pos (cell ns 0) (show (0 : Int) < 3 by decide)
      generalize cell ns 0 % 3 = q at k0 k3
      have fin : ∀ (part : Dt) (due : Bool), PTakes F [part, .str (sg c)] (.ok (.bl due)) → SD (cx0 P w K mg base ["_law_script", "_law_one", "_law_two", "_law_other", "_law_sign", "_law_kind", "_law_part", "_law_due", "_law_found"] "law" (defScope sLaw) f cdv A outer s H E) F (List.drop 7 (defBody sLaw)) [some (.ref a), some (.str (sg lo)), some (.str (sg hi)), some (.str (sg b3)), some (.str (sg c)), some (.int q), some part, some (.bl due), none] (.ret (.bl true)) := by
        intro part due hp
        refine s_asg 8 (d_call C3 hr (a_cons (d_v 6 rfl) (a_one (d_v 4 rfl))) (d := .bl due) fun F1 s1 => ?_) ?_ scLaw.nd
        · cases hp <;> constructor
        · refine s_ret ((d_andB (d_orB (d_isB (d_v 8 rfl) d_bl) (fun _ => d_one (d_isB (d_v 8 rfl) d_bl))) (fun _ => d_one (d_eq (d_v 8 rfl) (d_v 7 rfl)))).to ?_)
          cases due <;> rfl
      have : q = 0 ∨ q = 1 ∨ q = 2 := by omega
      rcases this with rfl | rfl | rfl
      · refine s_seq (if1 ((t_eq (d_v 5 rfl) d_int).to (by decide +kernel : _ = true)) (fun _ => ?_) (fun h => nomatch h)) (fin (.tup [.str "sign", .str (sg lo)]) (decide (c = lo)) (.sign F lo c))
        refine s_asg 6 (d_tup (a_cons d_str (a_one (d_v 1 rfl)))) (s_asg 7 ((d_eq (d_ord mo (d_v 4 rfl)) (d_ord mo (d_v 1 rfl))).to ?_) s_nil scLaw.nd) scLaw.nd
        exact congrArg Dt.bl (decide_eq_decide.mpr Int.ofNat_inj)
      · refine s_seq (if1 ((t_eq (d_v 5 rfl) d_int).to (by decide +kernel : _ = false)) (fun h => nomatch h) (fun _ => s_ifT ((t_eq (d_v 5 rfl) d_int).to (by decide +kernel)) (.go ?_ s_nil))) (fin (.tup [.str "span", .str (sg lo), .str (sg hi)]) (decide (lo ≤ c) && decide (c ≤ hi)) (.span F lo hi c))
        refine s_asg 6 (d_tup (a_cons d_str (a_cons (d_v 1 rfl) (a_one (d_v 2 rfl))))) (s_asg 7 ((d_andB (d_le (d_ord mo (d_v 1 rfl)) (d_ord mo (d_v 4 rfl))) (fun _ => d_one (d_le (d_ord mo (d_v 4 rfl)) (d_ord mo (d_v 2 rfl))))).to ?_) s_nil scLaw.nd) scLaw.nd
        exact congrArg Dt.bl (by simp)
      · refine s_seq (if1 ((t_eq (d_v 5 rfl) d_int).to (by decide +kernel : _ = false)) (fun h => nomatch h) (fun _ => s_ifF ((t_eq (d_v 5 rfl) d_int).to (by decide +kernel)) (.go ?_ s_nil))) (fin (.tup [.str "any"]) true (.any F c))
        exact s_asg 6 (d_tup (a_one d_str)) (s_asg 7 d_bl s_nil scLaw.nd) scLaw.nd
end
end Law

set_option Elab.async false
set_option linter.all false
set_option maxRecDepth 100000
set_option maxHeartbeats 0
namespace Law
open PySem PySem.Spec PyProof.Rows L2 G
def fn : List He.DefD := [dd "takes" sTakes, dd "_law_cell_at" sCell, dd "_law_sign_by" sSign, dd "law" sLaw]
def fa : List He.Fa := [.glo "takes", .glo "_law_cell_at", .glo "_law_sign_by", .glo "law", .free "len", .free "ord", .free "min"]
abbrev R : PySem.W.OpenRow := PySem.W.OpenLaw.row PySem.Challenge.rw_grammarpack_k01_signs_taken
abbrev hk : PySem.W.Hook := He.hookD 4 fa fn
def ob (s : PySem.W.SharedT) : He.AlD := He.obsDG 4 fa fn (HandSHeadRun.getT s)
theorem ob_eq (s : PySem.W.SharedT) : ob s = hk.obs s.abs := He.obsDG_eq (HandSHeadRun.getT_eq s)
theorem run (w : World) : HandSHeadRun.RunEq R (PySem.W.view R.prog [5]) hk ob 400 ["takes", "_law_cell_at", "_law_sign_by"] w := by
  intro os
  kernel_rfl
theorem facts {P : Program} {w : World} {K : PySem.W.Frag} {h : Heap} {mg : Str → Option Value} {f : Addr} (X : K.In h) (G : h.Ns mainGlobals mg) (hfa : mg ("law" : Str) = some (.ref f)) (c : He.SaysD fa fn K) :
    ∃ fd : FuncData, (∀ (s : Shared) (v : Value), BindsTo s fd ⟨[v], []⟩ [("_law_script", v)]) ∧ ∀ base : Heap, K.In base → base.Ns mainGlobals mg → FnOk P w K mg base CX0 2 f fd ["_law_script"] (spR (pLaw K)) := by
  obtain ⟨fd0, F0⟩ := at_of X G c 0 0 (x := "takes") (st := sTakes) (ps := ["part", "sign"]) rfl rfl fun _ _ _ _ _ _ us hl => match us, hl with | [_, _], _ => rfl
  obtain ⟨fd1, F1⟩ := at_of X G c 1 1 (x := "_law_cell_at") (st := sCell) (ps := ["_law_script", "_law_k"]) rfl rfl fun _ _ _ _ _ _ us hl => match us, hl with | [_, _], _ => rfl
  obtain ⟨fd2, F2⟩ := at_of X G c 2 2 (x := "_law_sign_by") (st := sSign) (ps := ["_law_cell"]) rfl rfl fun _ _ _ _ _ _ us hl => match us, hl with | [_], _ => rfl
  obtain ⟨fd3, F3⟩ := at_of X G c 3 3 (x := "law") (st := sLaw) (ps := ["_law_script"]) rfl rfl fun _ _ _ _ _ _ us hl => match us, hl with | [_], _ => rfl
  have e := hfa.symm.trans F3.mg
  cases e
  refine ⟨fd3, fun s v => .of_eq ?_, fun base _ _ => ?_⟩
  · obtain ⟨oc, od, kV, doc, pm, an, cdv, ct, osl, rfl, lk, hcd⟩ := F3.fn.ex
    rfl
  have ml := He.free_ok X G (c.fact 4 (f := .free "len") rfl)
  have mo := He.free_ok X G (c.fact 5 (f := .free "ord") rfl)
  have mm := He.free_ok X G (c.fact 6 (f := .free "min") rfl)
  exact ok_law F3.fn (F1.cal (ok_cell F1.fn ml)) (F2.cal (ok_sign F2.fn)) (F0.cal (ok_takes F0.fn)) mo mm
end Law
open PySem PySem.W PySem.Calls PyProof.Rows
theorem PySem.Challenge.cw_grammarpack_k01_signs_taken_holds : PySem.Challenge.rw_grammarpack_k01_signs_taken.Holds := by
  w_on; o_law
  refine HandSHeadRun.head_any (r := OpenLaw.row PySem.Challenge.rw_grammarpack_k01_signs_taken) (q := view (OpenLaw.row PySem.Challenge.rw_grammarpack_k01_signs_taken).prog [5]) (H := Law.hk) (ob := Law.ob) (M := 400) (loose := ["takes", "_law_cell_at", "_law_sign_by"]) (d := HandSHeadRun.topDef (OpenLaw.row PySem.Challenge.rw_grammarpack_k01_signs_taken).prog 5) (kwd := []) Law.ob_eq
    (by kernel_rfl) (fun s => by kernel_rfl) Law.run (by kernel_rfl) (by kernel_rfl) (by kernel_rfl) (by rfl) (by first | assumption | decide +kernel) (by decide +kernel) ⟨rfl, rfl, rfl, rfl, rfl, by decide +kernel⟩ ?hw ?hc
  case hw => w_witness2
  case hc =>
    refine G.law_ends (l := PySem.Challenge.rw_grammarpack_k01_signs_taken) (k := 2) (x := "_law_script") (pre := Law.pLaw) rfl (by kernel_rfl) ⟨rfl, by decide, by decide⟩ (fun K F a ns _ hS => ⟨a, ns, rfl, rfl, hS⟩) fun w mg fa h Y G hmg0 => ?_
    obtain ⟨K, KX, c⟩ := Y
    have hmg : mg ("law" : PySem.Str) = some (.ref fa) := by
      have e : (HandSHeadRun.topDef (OpenLaw.row PySem.Challenge.rw_grammarpack_k01_signs_taken).prog 5).name = ("law" : PySem.Str) := by kernel_rfl
      rw [← e]
      exact hmg0
    obtain ⟨fd, hb, hF⟩ := Law.facts (P := (PySem.Challenge.rw_grammarpack_k01_signs_taken).prog) (w := w) KX G hmg c
    exact ⟨K, fd, KX, hb, hF⟩
#print axioms PySem.Challenge.cw_grammarpack_k01_signs_taken_holds
