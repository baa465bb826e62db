import PyProof.Rows.All
import Wide.All
import OpenK.AllK
import Wide.FinOn
import HandS.ForMost
import HandS.Exc
import HandS.TryOnly
import HandS.ExcOwn
import HandS.WordsExc
import HandS.IsInst
import HandS.Wide
import HandS.Conv
import HandS.TupAny
import HandS.Rev
import HandS.TryMany
import HandS.ExcIs
import HandS.ExcCtx
import HandS.Hot
import HandS.HotCalls
import HandS.Style
import HandS.Head0
import HandS.Head1
import HandS.Head2
import HandS.HeadEnd
import HandS.HeadHook1
import HandS.HeadHook2
import HandS.More
import PyProof.Conv_int_bool
import PySem.Challenge.RW_grammarpack_k07_notes_read
set_option Elab.async false
set_option linter.all false
set_option maxRecDepth 100000
set_option maxHeartbeats 4000000
namespace G
open PySem PySem.Spec PyProof.Rows L2

/-! ### exceptions that tell that nothing stands behind them -/
theorem passN {X : Cx} : Passes (L2N.CX X.prog X.w) X E0 := fun _ _ _ _ _ _ _ hh => by
  obtain ⟨_, _, _, _, _, _, _, _, _, _, _, _, no⟩ := hh
  exact no.elim
theorem takesN0 {X : Cx} : L2N.Takes X (fun _ _ _ _ => False) := fun _ _ xx => by
  obtain ⟨_, _, _, _, _, _, _, _, _, _, _, _, _, _, _, _, no⟩ := xx
  exact no.elim
theorem fun_okN {P : Program} {w : World} {K : PySem.W.Frag} {mg : Str → Option Value} {base : Heap} {x qual : Str} {st : Stmt} {f : Addr} {fd : FuncData} {N ps : List Str} {k : Nat} {sp : Sp} (F : Fun K x qual st f fd) (S : FnScope N ps (defScope st))
    (len : ∀ vs H Q E, sp vs H Q E → vs.length = ps.length)
    (body : ∀ (cdv : Value) (A : Around) (outer : List Env) (s : Shared) (H : Hp) (vs : List V) (Q : VK) (E : XK), Room k (A.deeper (envOfC qual (defScope st) s.heap.objs.size f cdv)) → sp vs H Q E →
      ∃ t, PSs (cxOf (L2N.CX P w) P w K mg base N qual (defScope st) f cdv A outer s H E) (defBody st) t ∧ t { nx := fun _ H' => Q .non H', rt := Q } (L2.start N vs) H) : FnOk P w K mg base (L2N.CX P w) (k + 1) f fd ps sp := by
  obtain ⟨_, _, _, _, _, _, cdv, _, _, rfl, lk, hc⟩ := F.ex
  exact fn_of lk hc S len fun A outer s H vs Q E hr h => body cdv A outer s H vs Q E hr h

/-! ### data -/
inductive Dt where
  | non | bl (b : Bool) | int (i : Int) | str (s : Str) | ref (a : Addr) | ty (n : String) | lst (ds : List Dt) | tup (ds : List Dt)
mutual
inductive Rep (F : Hp) : V → Dt → Prop
  | non : Rep F .non .non
  | bl (b : Bool) : Rep F (.bl b) (.bl b)
  | int (i : Int) : Rep F (.int i) (.int i)
  | str (x : Str) : Rep F (.str x) (.str x)
  | ref (a : Addr) : Rep F (.ref a) (.ref a)
  | ty (n : String) : Rep F (.ty n) (.ty n)
  | lst {a : Addr} {xs : List V} {ds : List Dt} : F a = some (.lst xs) → RepA F xs ds → Rep F (.ref a) (.lst ds)
  | tup {a : Addr} {xs : List V} {ds : List Dt} : F a = some (.tup xs) → RepA F xs ds → Rep F (.ref a) (.tup ds)
inductive RepA (F : Hp) : List V → List Dt → Prop
  | nil : RepA F [] []
  | cons {v : V} {vs : List V} {d : Dt} {ds : List Dt} : Rep F v d → RepA F vs ds → RepA F (v :: vs) (d :: ds)
end
mutual
theorem Rep.mono {F F' : Hp} (s : Same F F') : ∀ {v : V} {d : Dt}, Rep F v d → Rep F' v d
  | _, _, .non => .non
  | _, _, .bl b => .bl b
  | _, _, .int i => .int i
  | _, _, .str x => .str x
  | _, _, .ref a => .ref a
  | _, _, .ty n => .ty n
  | _, _, .lst h r => .lst (s _ _ h) (RepA.mono s r)
  | _, _, .tup h r => .tup (s _ _ h) (RepA.mono s r)
theorem RepA.mono {F F' : Hp} (s : Same F F') : ∀ {vs : List V} {ds : List Dt}, RepA F vs ds → RepA F' vs ds
  | _, _, .nil => .nil
  | _, _, .cons h r => .cons (Rep.mono s h) (RepA.mono s r)
end
theorem RepA.length {F : Hp} : ∀ {vs : List V} {ds : List Dt}, RepA F vs ds → vs.length = ds.length
  | _, _, .nil => rfl
  | _, _, .cons _ r => congrArg (· + 1) (RepA.length r)
theorem RepA.get {F : Hp} : ∀ {vs : List V} {ds : List Dt} {i : Nat} {d : Dt}, RepA F vs ds → ds[i]? = some d → ∃ v, vs[i]? = some v ∧ Rep F v d
  | _, _, _, _, .nil, h => by simp at h
  | _, _, 0, _, .cons r _, h => by simp at h; subst h; exact ⟨_, rfl, r⟩
  | _, _, i + 1, _, .cons _ r, h => by simpa using RepA.get (i := i) r (by simpa using h)
theorem RepA.get' {F : Hp} : ∀ {vs : List V} {ds : List Dt} {i : Nat} {v : V}, RepA F vs ds → vs[i]? = some v → ∃ d, ds[i]? = some d ∧ Rep F v d
  | _, _, _, _, .nil, h => by simp at h
  | _, _, 0, _, .cons r _, h => by simp at h; subst h; exact ⟨_, rfl, r⟩
  | _, _, i + 1, _, .cons _ r, h => by simpa using RepA.get' (i := i) r (by simpa using h)
theorem RepA.append {F : Hp} : ∀ {vs ws : List V} {ds es : List Dt}, RepA F vs ds → RepA F ws es → RepA F (vs ++ ws) (ds ++ es)
  | _, _, _, _, .nil, s => s
  | _, _, _, _, .cons h r, s => .cons h (RepA.append r s)
theorem RepA.take {F : Hp} : ∀ (n : Nat) {vs : List V} {ds : List Dt}, RepA F vs ds → RepA F (vs.take n) (ds.take n)
  | 0, _, _, _ => .nil
  | _ + 1, _, _, .nil => .nil
  | n + 1, _, _, .cons h r => .cons h (RepA.take n r)
theorem RepA.drop {F : Hp} : ∀ (n : Nat) {vs : List V} {ds : List Dt}, RepA F vs ds → RepA F (vs.drop n) (ds.drop n)
  | 0, _, _, r => r
  | _ + 1, _, _, .nil => .nil
  | n + 1, _, _, .cons _ r => RepA.drop n r
theorem RepA.reverse {F : Hp} : ∀ {vs : List V} {ds : List Dt}, RepA F vs ds → RepA F vs.reverse ds.reverse
  | _, _, .nil => .nil
  | _, _, .cons h r => by
    rw [List.reverse_cons, List.reverse_cons]
    exact (RepA.reverse r).append (.cons h .nil)
theorem RepA.dropLast {F : Hp} {vs : List V} {ds : List Dt} (r : RepA F vs ds) : RepA F vs.dropLast ds.dropLast := by
  rw [List.dropLast_eq_take, List.dropLast_eq_take, r.length]
  exact r.take _
theorem RepA.set {F : Hp} {v : V} {d : Dt} (h : Rep F v d) : ∀ (i : Nat) {vs : List V} {ds : List Dt}, RepA F vs ds → RepA F (vs.set i v) (ds.set i d)
  | _, _, _, .nil => .nil
  | 0, _, _, .cons _ t => .cons h t
  | i + 1, _, _, .cons q t => .cons q (RepA.set h i t)
theorem RepA.ints {F : Hp} : ∀ {vs : List V} (ns : List Int), RepA F vs (ns.map Dt.int) → vs = ns.map V.int
  | _, [], .nil => rfl
  | _, n :: ns, .cons h r => by cases h; rw [RepA.ints ns r]; rfl
theorem RepA.strs {F : Hp} : ∀ {vs : List V} (ns : List Str), RepA F vs (ns.map Dt.str) → vs = ns.map V.str
  | _, [], .nil => rfl
  | _, n :: ns, .cons h r => by cases h; rw [RepA.strs ns r]; rfl
theorem RepA.bls {F : Hp} : ∀ {vs : List V} (ns : List Bool), RepA F vs (ns.map Dt.bl) → vs = ns.map V.bl
  | _, [], .nil => rfl
  | _, n :: ns, .cons h r => by cases h; rw [RepA.bls ns r]; rfl
theorem RepA.ofInts {F : Hp} : ∀ (ns : List Int), RepA F (ns.map V.int) (ns.map Dt.int)
  | [] => .nil
  | n :: ns => .cons (.int n) (RepA.ofInts ns)
theorem RepA.ofStrs {F : Hp} : ∀ (ns : List Str), RepA F (ns.map V.str) (ns.map Dt.str)
  | [] => .nil
  | n :: ns => .cons (.str n) (RepA.ofStrs ns)
theorem Rep.int_v {F : Hp} {v : V} {i : Int} (h : Rep F v (.int i)) : v = .int i := by cases h; rfl
theorem Rep.str_v {F : Hp} {v : V} {i : Str} (h : Rep F v (.str i)) : v = .str i := by cases h; rfl
theorem Rep.bl_v {F : Hp} {v : V} {i : Bool} (h : Rep F v (.bl i)) : v = .bl i := by cases h; rfl
theorem Rep.non_v {F : Hp} {v : V} (h : Rep F v .non) : v = .non := by cases h; rfl
theorem Rep.ref_v {F : Hp} {v : V} {a : Addr} (h : Rep F v (.ref a)) : v = .ref a := by cases h; rfl
theorem Rep.ty_v {F : Hp} {v : V} {n : String} (h : Rep F v (.ty n)) : v = .ty n := by cases h; rfl

/-! ### objects that may change -/
inductive Md where
  | lst (ds : List Dt) | dK (kvs : List (Key × Dt)) | dT (kvs : List (List Key × Dt)) | ins (C : Addr) (fs : List (Str × Dt)) | lck (o : HO)
inductive RepK (F : Hp) {κ : Type} : List (κ × V) → List (κ × Dt) → Prop
  | nil : RepK F [] []
  | cons {k : κ} {v : V} {d : Dt} {vs : List (κ × V)} {ds : List (κ × Dt)} : Rep F v d → RepK F vs ds → RepK F ((k, v) :: vs) ((k, d) :: ds)
theorem RepK.mono {κ : Type} {F F' : Hp} (s : Same F F') : ∀ {vs : List (κ × V)} {ds : List (κ × Dt)}, RepK F vs ds → RepK F' vs ds
  | _, _, .nil => .nil
  | _, _, .cons h r => .cons (h.mono s) (RepK.mono s r)
theorem RepK.length {κ : Type} {F : Hp} : ∀ {vs : List (κ × V)} {ds : List (κ × Dt)}, RepK F vs ds → vs.length = ds.length
  | _, _, .nil => rfl
  | _, _, .cons _ r => congrArg (· + 1) (RepK.length r)
theorem RepK.keys {κ : Type} {F : Hp} : ∀ {vs : List (κ × V)} {ds : List (κ × Dt)}, RepK F vs ds → vs.map (·.1) = ds.map (·.1)
  | _, _, .nil => rfl
  | _, _, .cons _ r => by rw [List.map_cons, List.map_cons, RepK.keys r]
theorem RepK.append {κ : Type} {F : Hp} : ∀ {vs ws : List (κ × V)} {ds es : List (κ × Dt)}, RepK F vs ds → RepK F ws es → RepK F (vs ++ ws) (ds ++ es)
  | _, _, _, _, .nil, s => s
  | _, _, _, _, .cons h r, s => .cons h (RepK.append r s)
def valD {κ : Type} [DecidableEq κ] (kvs : List (κ × Dt)) (k : κ) : Option Dt := (kvs.find? fun kv => decide (kv.1 = k)).map (·.2)
def putD {κ : Type} [DecidableEq κ] (kvs : List (κ × Dt)) (k : κ) (v : Dt) : List (κ × Dt) :=
  if (kvs.any fun kv => decide (kv.1 = k)) = true then kvs.map (fun kv => if kv.1 = k then (kv.1, v) else kv) else kvs ++ [(k, v)]
theorem RepK.val {κ : Type} [DecidableEq κ] {F : Hp} (k : κ) : ∀ {vs : List (κ × V)} {ds : List (κ × Dt)}, RepK F vs ds → (valV vs k = none ∧ valD ds k = none) ∨ ∃ v d, valV vs k = some v ∧ valD ds k = some d ∧ Rep F v d
  | _, _, .nil => .inl ⟨rfl, rfl⟩
  | _, _, @RepK.cons _ _ k' v d vs ds h r => by
    by_cases e : k' = k
    · exact .inr ⟨v, d, valV_pos (p := (k', v)) e, by simp [valD, List.find?_cons, e], h⟩
    · rw [valV_neg (p := (k', v)) e]
      have e2 : valD ((k', d) :: ds) k = valD ds k := by simp [valD, List.find?_cons, e]
      rw [e2]
      exact RepK.val k r
theorem RepK.any {κ : Type} [DecidableEq κ] {F : Hp} (k : κ) : ∀ {vs : List (κ × V)} {ds : List (κ × Dt)}, RepK F vs ds → (vs.any fun kv => decide (kv.1 = k)) = ds.any fun kv => decide (kv.1 = k)
  | _, _, .nil => rfl
  | _, _, .cons _ r => by rw [List.any_cons, List.any_cons, RepK.any k r]
theorem RepK.repl {κ : Type} [DecidableEq κ] {F : Hp} (k : κ) {y : V} {e : Dt} (ry : Rep F y e) : ∀ {vs : List (κ × V)} {ds : List (κ × Dt)}, RepK F vs ds → RepK F (vs.map fun kv => if kv.1 = k then (kv.1, y) else kv) (ds.map fun kv => if kv.1 = k then (kv.1, e) else kv)
  | _, _, .nil => .nil
  | _, _, @RepK.cons _ _ k' v d vs ds h r => by
    rw [List.map_cons, List.map_cons]
    by_cases q : k' = k
    · rw [if_pos q, if_pos q]; exact .cons ry (RepK.repl k ry r)
    · rw [if_neg q, if_neg q]; exact .cons h (RepK.repl k ry r)
theorem RepK.put {κ : Type} [DecidableEq κ] {F : Hp} (k : κ) {y : V} {e : Dt} (ry : Rep F y e) {vs : List (κ × V)} {ds : List (κ × Dt)} (r : RepK F vs ds) : RepK F (putK vs k y) (putD ds k e) := by
  unfold putK putD
  rw [r.any k]
  split
  · exact r.repl k ry
  · exact r.append (.cons ry .nil)
theorem RepK.look {F : Hp} (k : Str) : ∀ {vs : List (Str × V)} {ds : List (Str × Dt)}, RepK F vs ds → (vs.lookup k = none ∧ ds.lookup k = none) ∨ ∃ v d, vs.lookup k = some v ∧ ds.lookup k = some d ∧ Rep F v d
  | _, _, .nil => .inl ⟨rfl, rfl⟩
  | _, _, @RepK.cons _ _ k' v d vs ds h r => by
    rw [List.lookup_cons, List.lookup_cons]
    cases k == k' with
    | true => exact .inr ⟨v, d, rfl, rfl, h⟩
    | false => exact RepK.look k r
/-- an attribute set: in its place, or at the end -/
def putFD (f : Str) (d : Dt) : List (Str × Dt) → List (Str × Dt)
  | [] => [(f, d)]
  | (g, y) :: r => if g = f then (g, d) :: r else (g, y) :: putFD f d r
inductive RepM (F : Hp) : HO → Md → Prop
  | lst {xs : List V} {ds : List Dt} : RepA F xs ds → RepM F (.lst xs) (.lst ds)
  | dK {vs : List (Key × V)} {ds : List (Key × Dt)} : RepK F vs ds → RepM F (.dK vs) (.dK ds)
  | dT {vs : List (List Key × V)} {ds : List (List Key × Dt)} : RepK F vs ds → RepM F (.dT vs) (.dT ds)
  | ins {C dx : Addr} {vs : List (Str × V)} {ds : List (Str × Dt)} : RepK F vs ds → RepM F (.ins C dx vs) (.ins C ds)
  | lck (o : HO) : RepM F o (.lck o)
theorem RepM.mono {F F' : Hp} (s : Same F F') {o : HO} {c : Md} : RepM F o c → RepM F' o c
  | .lst r => .lst (r.mono s)
  | .dK r => .dK (r.mono s)
  | .dT r => .dT (r.mono s)
  | .ins r => .ins (r.mono s)
  | .lck o => .lck o
abbrev Mm := List (Addr × Md)
abbrev Mm.ads (m : Mm) : List Addr := m.map (·.1)

/-! ### what is known, what stands -/
/-- F is known of the heap H, and apart from it the objects of m -/
structure Sta (F H : Hp) (m : Mm) : Prop where
  sub : Same F H
  cell : ∀ p c, (p, c) ∈ m → F p = none ∧ ∃ o, H p = some o ∧ RepM F o c
  nd : m.ads.Nodup
/-- what may come of it: the knowledge grows, all but the objects of m stays -/
structure Ext (m : Mm) (F H F' H' : Hp) (m' : Mm) : Prop where
  ff : Same F F'
  hh : ∀ a o, H a = some o → a ∉ m.ads → H' a = some o
  new : ∀ a, H a ≠ none → a ∉ m.ads → F' a = F a
  own : ∀ a ∈ m'.ads, a ∈ m.ads ∨ H a = none
  st : Sta F' H' m'
abbrev Ex (m : Mm) (F H F' H' : Hp) : Prop := Ext m F H F' H' m
theorem Ext.sub {m m' : Mm} {F H F' H' : Hp} (e : Ext m F H F' H' m') : Same F' H' := e.st.sub
theorem Ext.refl {m : Mm} {F H : Hp} (s : Sta F H m) : Ext m F H F H m := ⟨Same.refl _, fun _ _ h _ => h, fun _ _ _ => rfl, fun _ h => .inl h, s⟩
theorem Ext.trans {m m1 m2 : Mm} {F H F1 H1 F2 H2 : Hp} (a : Ext m F H F1 H1 m1) (b : Ext m1 F1 H1 F2 H2 m2) : Ext m F H F2 H2 m2 := by
  have k : ∀ x, H x ≠ none → x ∉ m.ads → H1 x ≠ none ∧ x ∉ m1.ads := fun x h n => by
    cases q : H x with
    | none => exact absurd q h
    | some o => exact ⟨by rw [a.hh x o q n]; exact fun z => (nomatch z), fun hx => (a.own x hx).elim n h⟩
  refine ⟨a.ff.trans b.ff, fun x o h n => ?_, fun x h n => ?_, fun x h => ?_, b.st⟩
  · obtain ⟨h1, n1⟩ := k x (by rw [h]; exact fun z => (nomatch z)) n
    exact b.hh x o (a.hh x o h n) n1
  · obtain ⟨h1, n1⟩ := k x h n
    rw [b.new x h1 n1, a.new x h n]
  · by_cases n : x ∈ m.ads
    · exact .inl n
    · by_cases h0 : H x = none
      · exact .inr h0
      · obtain ⟨h1, n1⟩ := k x h0 n
        rcases b.own x h with q | q
        · exact absurd q n1
        · exact absurd q h1
theorem Sta.ads_ne {F H : Hp} {m : Mm} (s : Sta F H m) {p : Addr} (hp : H p = none) : p ∉ m.ads := fun h => by
  obtain ⟨⟨q, c⟩, h1, rfl⟩ := List.mem_map.mp h
  obtain ⟨_, o, h2, _⟩ := s.cell _ _ h1
  rw [h2] at hp
  cases hp
theorem Sta.fr {F H : Hp} {m : Mm} (s : Sta F H m) {p : Addr} (hp : H p = none) : F p = none := s.sub.free hp
/-- some of them, in whatever order -/
structure SubP (m' m : Mm) : Prop where
  sub : ∀ x ∈ m', x ∈ m
  nd : m.ads.Nodup → m'.ads.Nodup
theorem SubP.refl (m : Mm) : SubP m m := ⟨fun _ h => h, fun h => h⟩
theorem SubP.trans {a b c : Mm} (x : SubP a b) (y : SubP b c) : SubP a c := ⟨fun z h => y.sub z (x.sub z h), fun h => x.nd (y.nd h)⟩
theorem SubP.ads {a b : Mm} (x : SubP a b) {p : Addr} (h : p ∈ a.ads) : p ∈ b.ads := by
  obtain ⟨q, h1, rfl⟩ := List.mem_map.mp h
  exact List.mem_map.mpr ⟨q, x.sub q h1, rfl⟩
theorem SubP.of {a b : Mm} (h : a.Sublist b) : SubP a b := ⟨fun _ q => h.subset q, fun q => (h.map _).nodup q⟩
theorem SubP.nil {m : Mm} : SubP [] m := .of (List.nil_sublist m)
theorem SubP.cons {a b : Mm} {x : Addr × Md} (h : SubP a b) : SubP (x :: a) (x :: b) := ⟨fun z q => by
  rcases List.mem_cons.mp q with rfl | q
  · exact List.mem_cons_self
  · exact List.mem_cons_of_mem _ (h.sub z q), fun q => by
  rw [Mm.ads, List.map_cons, List.nodup_cons] at q ⊢
  exact ⟨fun e => q.1 (h.ads e), h.nd q.2⟩⟩
theorem SubP.drop {a b : Mm} {x : Addr × Md} (h : SubP a b) : SubP a (x :: b) := ⟨fun z q => List.mem_cons_of_mem _ (h.sub z q), fun q => by
  rw [Mm.ads, List.map_cons, List.nodup_cons] at q
  exact h.nd q.2⟩
theorem SubP.swap {a b : Mm} {x y : Addr × Md} (h : SubP a b) : SubP (x :: y :: a) (y :: x :: b) := by
  refine SubP.trans (b := x :: y :: b) h.cons.cons ⟨fun z q => ?_, fun q => ?_⟩
  · simp only [List.mem_cons] at q ⊢
    rcases q with q | q | q
    · exact .inr (.inl q)
    · exact .inl q
    · exact .inr (.inr q)
  · simp only [Mm.ads, List.map_cons, List.nodup_cons, List.mem_cons, not_or] at q ⊢
    exact ⟨⟨fun e => q.1.1 e.symm, q.2.1⟩, q.1.2, q.2.2⟩
theorem Sta.wk {F H : Hp} {m m' : Mm} (s : Sta F H m) (h : SubP m' m) : Sta F H m' := ⟨s.sub, fun p c hp => s.cell p c (h.sub _ hp), h.nd s.nd⟩
theorem Ext.wk {m m1 m2 : Mm} {F H F' H' : Hp} (e : Ext m F H F' H' m1) (h : SubP m2 m1) : Ext m F H F' H' m2 := ⟨e.ff, e.hh, e.new, fun a ha => e.own a (h.ads ha), e.st.wk h⟩
/-- a new object, known -/
theorem Ext.mk1 {m : Mm} {F H : Hp} {p : Addr} (s : Sta F H m) (hp : H p = none) (o : HO) : Ext m F H (upd F p o) (upd H p o) m := by
  have ff : Same F (upd F p o) := fun b u e => by rw [upd_ne (ne_of_none e (s.fr hp))]; exact e
  refine ⟨ff, fun b u e _ => by rw [upd_ne (ne_of_none e hp)]; exact e, fun a h _ => by rw [upd_ne (fun e => h (by rw [e]; exact hp))], fun _ h => .inl h, fun b u e => ?_, fun q c hq => ?_, s.nd⟩
  · by_cases hb : b = p
    · subst hb; rw [upd_same] at e ⊢; exact e
    · rw [upd_ne hb] at e ⊢; exact s.sub _ _ e
  · obtain ⟨h1, o', h2, h3⟩ := s.cell q c hq
    have n : q ≠ p := ne_of_none h2 hp
    exact ⟨by rw [upd_ne n]; exact h1, o', by rw [upd_ne n]; exact h2, h3.mono ff⟩
/-- a new object, not known -/
theorem Ext.mk0 {m : Mm} {F H : Hp} {p : Addr} (s : Sta F H m) (hp : H p = none) (o : HO) : Ext m F H F (upd H p o) m := by
  refine ⟨Same.refl _, fun b u e _ => by rw [upd_ne (ne_of_none e hp)]; exact e, fun _ _ _ => rfl, fun _ h => .inl h, fun b u e => ?_, fun q c hq => ?_, s.nd⟩
  · rw [upd_ne (ne_of_none (s.sub _ _ e) hp)]; exact s.sub _ _ e
  · obtain ⟨h1, o', h2, h3⟩ := s.cell q c hq
    exact ⟨h1, o', by rw [upd_ne (ne_of_none h2 hp)]; exact h2, h3⟩
/-- a new object, to be changed -/
theorem Ext.mkM {m : Mm} {F H : Hp} {p : Addr} (s : Sta F H m) (hp : H p = none) {o : HO} {c : Md} (r : RepM F o c) : Ext m F H F (upd H p o) ((p, c) :: m) := by
  have e0 := Ext.mk0 s hp o
  refine ⟨e0.ff, e0.hh, e0.new, fun a ha => ?_, e0.st.sub, fun q d hq => ?_, ?_⟩
  · rw [Mm.ads, List.map_cons, List.mem_cons] at ha
    rcases ha with h | h
    · exact .inr (by rw [h]; exact hp)
    · exact .inl h
  · rcases List.mem_cons.mp hq with h | h
    · cases h
      exact ⟨s.fr hp, o, upd_same, r⟩
    · exact e0.st.cell q d h
  · rw [Mm.ads, List.map_cons, List.nodup_cons]
    exact ⟨s.ads_ne hp, s.nd⟩
theorem ads_set {m : Mm} {j : Nat} {p : Addr} {c c' : Md} (hj : m[j]? = some (p, c)) : Mm.ads (m.set j (p, c')) = m.ads := by
  unfold Mm.ads
  rw [List.map_set]
  refine List.ext_getElem? fun i => ?_
  by_cases e : j = i
  · subst e
    obtain ⟨h1, h2⟩ := List.getElem?_eq_some_iff.mp hj
    rw [List.getElem?_set_self (by simpa using h1), List.getElem?_map, hj]
    rfl
  · rw [List.getElem?_set_ne e]
theorem mem_at {m : Mm} {j : Nat} {x : Addr × Md} (hj : m[j]? = some x) : x ∈ m := List.mem_of_getElem? hj
/-- an object of m changes -/
theorem Ext.mut {m : Mm} {F H : Hp} {j : Nat} {p : Addr} {c c' : Md} {o : HO} (s : Sta F H m) (hj : m[j]? = some (p, c)) (r : RepM F o c') : Ext m F H F (upd H p o) (m.set j (p, c')) := by
  have hp : p ∈ m.ads := List.mem_map.mpr ⟨_, mem_at hj, rfl⟩
  obtain ⟨fp, _⟩ := s.cell p c (mem_at hj)
  refine ⟨Same.refl _, fun b u e n => by rw [upd_ne (fun q => n (by rw [q]; exact hp))]; exact e, fun _ _ _ => rfl, fun a h => .inl (by rw [ads_set hj] at h; exact h), fun b u e => ?_, fun q d hq => ?_, by rw [ads_set hj]; exact s.nd⟩
  · rw [upd_ne (ne_of_none e fp)]; exact s.sub _ _ e
  · by_cases e : q = p
    · subst e
      refine ⟨fp, o, upd_same, ?_⟩
      -- the entry at j is the only one of p
      have : d = c' := by
        obtain ⟨i, hi⟩ := List.mem_iff_getElem?.mp hq
        by_cases eij : j = i
        · subst eij
          rw [List.getElem?_set_self (List.getElem?_eq_some_iff.mp hj).1] at hi
          cases hi; rfl
        · rw [List.getElem?_set_ne eij] at hi
          have h1 : m.ads[j]? = some q := by rw [List.getElem?_map, hj]; rfl
          have h2 : m.ads[i]? = some q := by rw [List.getElem?_map, hi]; rfl
          obtain ⟨l1, g1⟩ := List.getElem?_eq_some_iff.mp h1
          obtain ⟨l2, g2⟩ := List.getElem?_eq_some_iff.mp h2
          exact absurd ((List.getElem_inj s.nd).mp (g1.trans g2.symm)) eij
      subst this
      exact r
    · have : (q, d) ∈ m := by
        rcases List.mem_or_eq_of_mem_set hq with h | h
        · exact h
        · cases h; exact absurd rfl e
      obtain ⟨h1, o', h2, h3⟩ := s.cell q d this
      exact ⟨h1, o', by rw [upd_ne e]; exact h2, h3⟩
/-- an object of m becomes known -/
theorem Ext.frz {m : Mm} {F H : Hp} {j : Nat} {p : Addr} {c : Md} {o : HO} (s : Sta F H m) (hj : m[j]? = some (p, c)) (ho : H p = some o) : Ext m F H (upd F p o) H (m.eraseIdx j) := by
  have hp : p ∈ m.ads := List.mem_map.mpr ⟨_, mem_at hj, rfl⟩
  obtain ⟨fp, _⟩ := s.cell p c (mem_at hj)
  have ff : Same F (upd F p o) := fun b u e => by rw [upd_ne (ne_of_none e fp)]; exact e
  refine ⟨ff, fun b u e n => e, fun a _ n => by rw [upd_ne (fun q => n (by rw [q]; exact hp))], fun a h => .inl (((List.eraseIdx_sublist m j).map _).subset h), fun b u e => ?_, fun q d hq => ?_, ((List.eraseIdx_sublist m j).map _).nodup s.nd⟩
  · by_cases hb : b = p
    · subst hb; rw [upd_same] at e; cases e; exact ho
    · rw [upd_ne hb] at e; exact s.sub _ _ e
  · have hq' := (List.eraseIdx_sublist m j).subset hq
    have n : q ≠ p := fun e => by
      subst e
      obtain ⟨i, hne, hi⟩ := List.mem_eraseIdx_iff_getElem?.mp hq
      have h3 : m.ads[j]? = some q := by rw [List.getElem?_map, hj]; rfl
      have hi : m.ads[i]? = some q := by rw [List.getElem?_map, hi]; rfl
      obtain ⟨l1, g1⟩ := List.getElem?_eq_some_iff.mp h3
      obtain ⟨l2, g2⟩ := List.getElem?_eq_some_iff.mp hi
      exact absurd ((List.getElem_inj s.nd).mp (g1.trans g2.symm)) (fun e => hne e.symm)
    obtain ⟨h1, o', h2, h3⟩ := s.cell q d hq'
    exact ⟨by rw [upd_ne n]; exact h1, o', h2, h3.mono ff⟩

/-- slots by data, and the objects that may change -/
structure Sl where
  s : List (Option Dt)
  m : Mm
abbrev Sl.set (δ : Sl) (i : Nat) (x : Option Dt) : Sl := ⟨δ.s.set i x, δ.m⟩
abbrev Sl.to (δ : Sl) (m : Mm) : Sl := ⟨δ.s, m⟩
structure Ctx (F H : Hp) (σ : L2.St) (δ : Sl) : Prop where
  st : Sta F H δ.m
  slot : ∀ (i : Nat) (d : Dt), δ.s[i]? = some (some d) → ∃ v, σ[i]? = some (some v) ∧ Rep F v d
  len : δ.s.length ≤ σ.length
theorem Ctx.sub {F H : Hp} {σ : L2.St} {δ : Sl} (c : Ctx F H σ δ) : Same F H := c.st.sub
theorem Ctx.to {F H F' H' : Hp} {σ : L2.St} {δ : Sl} {m' : Mm} (c : Ctx F H σ δ) (e : Ext δ.m F H F' H' m') : Ctx F' H' σ (δ.to m') :=
  ⟨e.st, fun i d h => let ⟨v, h1, h2⟩ := c.slot i d h; ⟨v, h1, h2.mono e.ff⟩, c.len⟩
theorem Ctx.ext {F H F' H' : Hp} {σ : L2.St} {δ : Sl} (c : Ctx F H σ δ) (e : Ex δ.m F H F' H') : Ctx F' H' σ δ := c.to e
structure Wk (δ δ' : Sl) : Prop where
  s : ∀ (i : Nat) (d : Dt), δ'.s[i]? = some (some d) → δ.s[i]? = some (some d)
  m : SubP δ'.m δ.m
  l : δ'.s.length ≤ δ.s.length
theorem Wk.refl (δ : Sl) : Wk δ δ := ⟨fun _ _ h => h, SubP.refl _, Nat.le_refl _⟩
theorem Wk.trans {a b c : Sl} (x : Wk a b) (y : Wk b c) : Wk a c := ⟨fun i d h => x.s i d (y.s i d h), y.m.trans x.m, Nat.le_trans y.l x.l⟩
theorem Ctx.wk {F H : Hp} {σ : L2.St} {δ δ' : Sl} (c : Ctx F H σ δ) (w : Wk δ δ') : Ctx F H σ δ' := ⟨c.st.wk w.m, fun i d h => c.slot i d (w.s i d h), Nat.le_trans w.l c.len⟩
theorem Wk.nil {m : Mm} : Wk ⟨[], m⟩ ⟨[], m⟩ := .refl _
theorem Wk.mem {m m' : Mm} (h : SubP m' m) : Wk ⟨[], m⟩ ⟨[], m'⟩ := ⟨fun _ _ h => h, h, Nat.le_refl _⟩
theorem Wk.cons {a : Option Dt} {s s' : List (Option Dt)} {m m' : Mm} (h : Wk ⟨s, m⟩ ⟨s', m'⟩) : Wk ⟨a :: s, m⟩ ⟨a :: s', m'⟩ := ⟨fun i d q => by
  cases i with
  | zero => simpa using q
  | succ i => simpa using h.s i d (by simpa using q), h.m, Nat.succ_le_succ h.l⟩
theorem Wk.consN {a : Option Dt} {s s' : List (Option Dt)} {m m' : Mm} (h : Wk ⟨s, m⟩ ⟨s', m'⟩) : Wk ⟨a :: s, m⟩ ⟨none :: s', m'⟩ := ⟨fun i d q => by
  cases i with
  | zero => simp at q
  | succ i => simpa using h.s i d (by simpa using q), h.m, Nat.succ_le_succ h.l⟩
theorem Ctx.set {F H : Hp} {σ : L2.St} {δ : Sl} {v : V} {d : Dt} (c : Ctx F H σ δ) (i : Nat) (r : Rep F v d) : Ctx F H (σ.set i (some v)) (δ.set i (some d)) := by
  refine ⟨c.st, fun j d' h => ?_, by simpa using c.len⟩
  by_cases e : i = j
  · subst e
    by_cases hi : i < δ.s.length
    · rw [List.getElem?_set_self hi] at h
      cases h
      exact ⟨v, List.getElem?_set_self (Nat.lt_of_lt_of_le hi c.len), r⟩
    · rw [List.getElem?_eq_none (by rw [List.length_set]; omega)] at h
      cases h
  · rw [List.getElem?_set_ne e] at h ⊢
    exact c.slot j d' h

/-! ### the judgements by their meaning -/
/-- a box: what stands in it is not looked into -/
structure Sh (p : Prop) : Prop where
  go : p
def WE (X : Cx) (e : Expr) : TE := fun σ H Q => Sh (∀ pins s, Inv X pins σ H s → wpAny (model X.prog X.w) X.A (eval e X.env) (EP X pins σ Q) X.xe s)
def WT (X : Cx) (e : Expr) : TT := fun σ H Q => Sh (∀ pins s, Inv X pins σ H s → wpAny (model X.prog X.w) X.A (isTrue e X.env (eval e X.env)) (TP X pins σ Q) X.xe s)
def WA (X : Cx) (es : List Expr) : TA := fun σ H Q => Sh (∀ pos pins s, Inv X pins σ H s → wpAny (model X.prog X.w) X.A (spliced (backTo pos (starEach es X.env))) (AP X pins σ Q) X.xe s)
def WS (X : Cx) (st : Stmt) : TS := fun D σ H => Sh (∀ pins s, Inv X pins σ H s → wpAny (model X.prog X.w) X.A (exec st X.env) (SP X pins D) X.xe s)
def WSs (X : Cx) (st : List Stmt) : TS := fun D σ H => Sh (∀ pins s, Inv X pins σ H s → wpAny (model X.prog X.w) X.A (execs st X.env) (SP X pins D) X.xe s)
def WG (X : Cx) (tg : Expr) : TG := fun v σ H Q => Sh (∀ pins s u, Inv X pins σ H s → RelV v u → wpAny (model X.prog X.w) X.A (assign tg X.env u) (fun _ s' => ∃ σ' H', Inv X pins σ' H' s' ∧ Q σ' H') X.xe s)
theorem pe {X : Cx} {e : Expr} : PE X e (WE X e) := ⟨fun pins s _ _ _ I h => h.go pins s I⟩
theorem pt {X : Cx} {e : Expr} : PT X e (WT X e) := ⟨fun pins s _ _ _ I h => h.go pins s I⟩
theorem pa {X : Cx} {es : List Expr} : PA X es (WA X es) := ⟨fun pos pins s _ _ _ I h => h.go pos pins s I⟩
theorem ps {X : Cx} {st : Stmt} : PS X st (WS X st) := ⟨fun pins s _ _ _ I h => h.go pins s I⟩
theorem pss {X : Cx} {st : List Stmt} : PSs X st (WSs X st) := ⟨fun pins s _ _ _ I h => h.go pins s I⟩
theorem pg {X : Cx} {tg : Expr} : PG X tg (WG X tg) := ⟨fun pins s _ _ _ u _ I r h => h.go pins s u I r⟩
section
variable {X : Cx}
theorem we {e : Expr} {t : TE} (h : PE X e t) {σ : L2.St} {H : Hp} {Q : VK} (q : t σ H Q) : WE X e σ H Q := ⟨fun pins s I => h.run pins s σ H Q I q⟩
theorem wt {e : Expr} {t : TT} (h : PT X e t) {σ : L2.St} {H : Hp} {Q : Bool → Hp → Prop} (q : t σ H Q) : WT X e σ H Q := ⟨fun pins s I => h.run pins s σ H Q I q⟩
theorem wa {es : List Expr} {t : TA} (h : PA X es t) {σ : L2.St} {H : Hp} {Q : List V → Hp → Prop} (q : t σ H Q) : WA X es σ H Q := ⟨fun pos pins s I => h.run pos pins s σ H Q I q⟩
theorem ws {st : Stmt} {t : TS} (h : PS X st t) {σ : L2.St} {H : Hp} {D : Ends} (q : t D σ H) : WS X st D σ H := ⟨fun pins s I => h.run pins s σ H D I q⟩
theorem wss {st : List Stmt} {t : TS} (h : PSs X st t) {σ : L2.St} {H : Hp} {D : Ends} (q : t D σ H) : WSs X st D σ H := ⟨fun pins s I => h.run pins s σ H D I q⟩
theorem wg {tg : Expr} {t : TG} (h : PG X tg t) {v : V} {σ : L2.St} {H : Hp} {Q : L2.St → Hp → Prop} (q : t v σ H Q) : WG X tg v σ H Q := ⟨fun pins s u I r => h.run pins s σ H v u Q I r q⟩
theorem WE.mono {e : Expr} {σ : L2.St} {H : Hp} {Q Q' : VK} (h : WE X e σ H Q) (m : ∀ v H', Q v H' → Q' v H') : WE X e σ H Q' :=
  ⟨fun pins s I => thn (h.go pins s I) fun _ _ ⟨v, H', J, r, q⟩ => ⟨v, H', J, r, m v H' q⟩⟩
theorem WSs.len {st : List Stmt} {D : Ends} {σ : L2.St} {H : Hp} (h : σ.length = X.N.length → WSs X st D σ H) : WSs X st D σ H := ⟨fun pins s I => (h I.len).go pins s I⟩
theorem WS.len {st : Stmt} {D : Ends} {σ : L2.St} {H : Hp} (h : σ.length = X.N.length → WS X st D σ H) : WS X st D σ H := ⟨fun pins s I => (h I.len).go pins s I⟩
theorem WG.len {tg : Expr} {v : V} {σ : L2.St} {H : Hp} {Q : L2.St → Hp → Prop} (h : σ.length = X.N.length → WG X tg v σ H Q) : WG X tg v σ H Q := ⟨fun pins s u I r => (h I.len).go pins s u I r⟩

/-! ### where one stands: X itself stays shut -/
structure Gm where
  P : Program
  w : World
  K : PySem.W.Frag
  mg : Str → Option Value
  base : Heap
  A : Around
class Bd (X : Cx) (Γ : outParam Gm) (N : outParam (List Str)) (sc : outParam Scope) : Prop where
  prog : X.prog = Γ.P
  w : X.w = Γ.w
  K : X.K = Γ.K
  mg : X.mg = Γ.mg
  base : X.base = Γ.base
  A : X.A = Γ.A
  hN : X.N = N
  hsc : X.env.scope = sc
  calm : X.calm = true
  nd : N.Nodup
  po : PassesOwn (model X.prog X.w) X.A X.env X.xe
/-- a def's own block -/
class Bf (X : Cx) : Prop where
  fn : ∀ n, X.fn n = true
  stk : X.stack = X.env :: X.outer
  frm : X.env.frame = some X.env.locals
def visB (sc : Scope) (n : Str) : Bool := (match sc.names.lookup n with
  | some .local => true
  | some .cell => true
  | some .free => true
  | _ => false) && !(n == ("__debug__" : Str)) && !(n == ("__classdict__" : Str))
def locB (sc : Scope) (n : Str) : Bool := match sc.names.lookup n with
  | some .local => true
  | some .cell => true
  | _ => false
def glB (sc : Scope) (n : Str) : Bool := (match sc.names.lookup n with
  | some .globalImplicit => true
  | _ => false) && !(n == ("__debug__" : Str)) && !(n == ("__name__" : Str))
theorem visB_ok {sc : Scope} {n : Str} (h : visB sc n = true) : Vis sc n ∧ (n == ("__debug__" : Str)) = false ∧ (n == ("__classdict__" : Str)) = false := by
  unfold visB at h
  simp only [Bool.and_eq_true, Bool.not_eq_true'] at h
  refine ⟨?_, h.1.2, h.2⟩
  have h1 := h.1.1
  split at h1 <;> first | exact .inl (by assumption) | exact .inr (.inl (by assumption)) | exact .inr (.inr (by assumption)) | cases h1
theorem locB_ok {sc : Scope} {n : Str} (h : locB sc n = true) : Loc sc n := by
  unfold locB at h
  split at h <;> first | exact .inl (by assumption) | exact .inr (by assumption) | cases h
theorem glB_ok {sc : Scope} {n : Str} (h : glB sc n = true) : sc.names.lookup n = some .globalImplicit ∧ (n == ("__debug__" : Str)) = false ∧ n ≠ ("__name__" : Str) := by
  unfold glB at h
  simp only [Bool.and_eq_true, Bool.not_eq_true'] at h
  refine ⟨?_, h.1.2, by simpa using h.2⟩
  have h1 := h.1.1
  split at h1 <;> first | assumption | cases h1
theorem Bd.gl {X : Cx} {Γ : Gm} {N : List Str} {sc : Scope} (B : Bd X Γ N sc) {n : Str} (h : glB sc n = true) : Gl X n ∧ (n == ("__debug__" : Str)) = false ∧ n ≠ ("__name__" : Str) := by
  have q := glB_ok h
  rw [← B.hsc] at q
  exact q
theorem Bd.lf {X : Cx} {Γ : Gm} {N : List Str} {sc : Scope} (B : Bd X Γ N sc) {n : Str} (h : locB sc n = true) : Loc X.env.scope n := by
  have q := locB_ok h
  rw [← B.hsc] at q
  exact q
/-! arguments without a star: by their form (rfl would walk the whole tree) -/
class Pl (e : Expr) : Prop where
  st : ∀ (r : List Expr) (env : Env), starEach (e :: r) env = (false, eval e env) :: starEach r env
instance pl_name {x : Str} {p : Pos} : Pl (.Name x p) := ⟨fun _ _ => rfl⟩
instance pl_const {c : Const} {k : Nat} {p : Pos} : Pl (.Constant c k p) := ⟨fun _ _ => rfl⟩
instance pl_tup {es : List Expr} {k : Nat} {p : Pos} : Pl (.Tuple es k p) := ⟨fun _ _ => rfl⟩
instance pl_lst {es : List Expr} {p : Pos} : Pl (.List es p) := ⟨fun _ _ => rfl⟩
instance pl_call {f : Expr} {es : List Expr} {ks : List Keyword} {p : Pos} : Pl (.Call f es ks p) := ⟨fun _ _ => rfl⟩
instance pl_sub {a b : Expr} {p : Pos} : Pl (.Subscript a b p) := ⟨fun _ _ => rfl⟩
instance pl_attr {a : Expr} {x : Str} {p : Pos} : Pl (.Attribute a x p) := ⟨fun _ _ => rfl⟩
instance pl_bin {a b : Expr} {o : Operator} {p : Pos} : Pl (.BinOp a o b p) := ⟨fun _ _ => rfl⟩
instance pl_un {a : Expr} {o : UnaryOp} {p : Pos} : Pl (.UnaryOp o a p) := ⟨fun _ _ => rfl⟩
instance pl_cmp {a : Expr} {os : List CmpOp} {bs : List Expr} {p : Pos} : Pl (.Compare a os bs p) := ⟨fun _ _ => rfl⟩
instance pl_lc {e : Expr} {g : List Comprehension} {s : Scope} {p : Pos} : Pl (.ListComp e g s p) := ⟨fun _ _ => rfl⟩
theorem plSt {e : Expr} {r : List Expr} {env : Env} [h : Pl e] : starEach (e :: r) env = (false, eval e env) :: starEach r env := h.st r env
/-! ### what evaluates to what -/
def EvD (X : Cx) (F : Hp) (e : Expr) (δ : Sl) (d : Dt) : Prop := ∀ (F1 H : Hp) (σ : L2.St) (Q : VK), Same F F1 → Ctx F1 H σ δ → (∀ v F' H', Ex δ.m F1 H F' H' → Rep F' v d → Q v H') → WE X e σ H Q
def EtD (X : Cx) (F : Hp) (e : Expr) (δ : Sl) (b : Bool) : Prop := ∀ (F1 H : Hp) (σ : L2.St) (Q : Bool → Hp → Prop), Same F F1 → Ctx F1 H σ δ → (∀ F' H', Ex δ.m F1 H F' H' → Q b H') → WT X e σ H Q
def EaD (X : Cx) (F : Hp) (es : List Expr) (δ : Sl) (ds : List Dt) : Prop := ∀ (F1 H : Hp) (σ : L2.St) (Q : List V → Hp → Prop), Same F F1 → Ctx F1 H σ δ → (∀ vs F' H', Ex δ.m F1 H F' H' → RepA F' vs ds → Q vs H') → WA X es σ H Q
/-- an operation on values, by data -/
def RD (F : Hp) (r : R2) (x y z : Dt) : Prop := ∀ (m : Mm) (F1 H : Hp) (vx vy : V) (Q : VK), Same F F1 → Sta F1 H m → Rep F1 vx x → Rep F1 vy y → (∀ v F' H', Ex m F1 H F' H' → Rep F' v z → Q v H') → r vx vy H Q
def RC (F : Hp) (r : List V → Hp → VK → Prop) (xs : List Dt) (z : Dt) : Prop := ∀ (m : Mm) (F1 H : Hp) (vs : List V) (Q : VK), Same F F1 → Sta F1 H m → RepA F1 vs xs → (∀ v F' H', Ex m F1 H F' H' → Rep F' v z → Q v H') → r vs H Q
variable {F : Hp} {δ : Sl} {e a b : Expr} {es : List Expr} {d x y z : Dt} {ds : List Dt} {Γ : Gm} {N : List Str} {sc : Scope}
theorem EvD.know {F' : Hp} (h : EvD X F e δ d) (s : Same F F') : EvD X F' e δ d := fun F1 H σ Q s1 => h F1 H σ Q (s.trans s1)
theorem EtD.know {F' : Hp} {k : Bool} (h : EtD X F e δ k) (s : Same F F') : EtD X F' e δ k := fun F1 H σ Q s1 => h F1 H σ Q (s.trans s1)
theorem EvD.to {d' : Dt} (h : EvD X F e δ d) (q : d = d') : EvD X F e δ d' := q ▸ h
theorem EtD.to {k k' : Bool} (h : EtD X F e δ k) (q : k = k') : EtD X F e δ k' := q ▸ h

theorem d_v [B : Bd X Γ N sc] (i : Nat) {n : Str} {pos : Pos} (h : δ.s[i]? = some (some d)) (hN : N[i]? = some n := by rfl) (hv : visB sc n = true := by decide +kernel) : EvD X F (.Name n pos) δ d := fun F1 H σ Q _ c k => by
  obtain ⟨v, h1, h2⟩ := c.slot i d h
  obtain ⟨q1, q2, q3⟩ := visB_ok hv
  exact we (pe_var (by rw [B.hN]; exact hN) (by rw [B.hsc]; exact q1) q2 q3) ⟨v, h1, k v F1 H (.refl c.st) h2⟩
theorem d_int {i : Int} {j pos} : EvD X F (.Constant (.int i) j pos) δ (.int i) := fun F1 H σ Q _ c k => we pe_int (k _ F1 H (.refl c.st) (.int i))
theorem d_bl {i : Bool} {j pos} : EvD X F (.Constant (.bool i) j pos) δ (.bl i) := fun F1 H σ Q _ c k => we pe_bl (k _ F1 H (.refl c.st) (.bl i))
theorem d_non {j pos} : EvD X F (.Constant .none j pos) δ .non := fun F1 H σ Q _ c k => we pe_non (k _ F1 H (.refl c.st) .non)
theorem d_str {i : Str} {j pos} : EvD X F (.Constant (.str i) j pos) δ (.str i) := fun F1 H σ Q _ c k => we pe_str (k _ F1 H (.refl c.st) (.str i))
theorem d_gstr [B : Bd X Γ N sc] {n : Str} {t : Tok} {s : Str} {pos : Pos} (hm : Γ.mg n = some (.str s t)) (hg : glB sc n = true := by decide +kernel) : EvD X F (.Name n pos) δ (.str s) :=
  fun F1 H σ Q _ c k => we (pe_glob (v := .str s) (B.gl hg).1 (by rw [B.mg]; exact hm) ⟨t, rfl⟩ (B.gl hg).2.1) (k _ F1 H (.refl c.st) (.str s))
theorem d_gint [B : Bd X Γ N sc] {n : Str} {t : Tok} {s : Int} {pos : Pos} (hm : Γ.mg n = some (.int s t)) (hg : glB sc n = true := by decide +kernel) : EvD X F (.Name n pos) δ (.int s) :=
  fun F1 H σ Q _ c k => we (pe_glob (v := .int s) (B.gl hg).1 (by rw [B.mg]; exact hm) ⟨t, rfl⟩ (B.gl hg).2.1) (k _ F1 H (.refl c.st) (.int s))

/-! arguments -/
theorem a_nil : EaD X F [] δ [] := fun F1 H σ Q _ c k => wa pa_nil (k [] F1 H (.refl c.st) .nil)
theorem a_cons (h : EvD X F e δ d) (hr : EaD X F es δ ds) (hs : starEach (e :: es) X.env = (false, eval e X.env) :: starEach es X.env := by first | exact plSt | rfl) : EaD X F (e :: es) δ (d :: ds) := fun F1 H σ Q s c k =>
  wa (pa_cons pe pa hs) (h F1 H σ _ s c fun v F2 H2 e2 r2 => hr F2 H2 σ _ (s.trans e2.ff) (c.ext e2) fun vs F3 H3 e3 r3 => k _ F3 H3 (e2.trans e3) (.cons (r2.mono e3.ff) r3))
theorem d_tup {x1} {pos : Pos} (h : EaD X F es δ ds) (hz : ds.length ≤ 1000 := by first | decide | (simp only [List.length_cons, List.length_nil]; omega)) : EvD X F (.Tuple es x1 pos) δ (.tup ds) := fun F1 H σ Q s c k =>
  we (pe_tup pa) (h F1 H σ _ s c fun vs F2 H2 e2 r2 => ⟨by rw [r2.length]; exact Nat.le_of_lt (small1000 hz), fun p hp =>
    k _ _ _ (e2.trans (.mk1 e2.st hp (.tup vs))) (.tup upd_same (r2.mono (Ext.mk1 e2.st hp (.tup vs)).ff))⟩)
theorem d_lst {pos : Pos} (h : EaD X F es δ ds) (hz : ds.length ≤ 1000 := by first | decide | (simp only [List.length_cons, List.length_nil]; omega)) : EvD X F (.List es pos) δ (.lst ds) := fun F1 H σ Q s c k =>
  we (pe_lst pa) (h F1 H σ _ s c fun vs F2 H2 e2 r2 => ⟨by rw [r2.length]; exact Nat.le_of_lt (small1000 hz), fun p hp =>
    k _ _ _ (e2.trans (.mk1 e2.st hp (.lst vs))) (.lst upd_same (r2.mono (Ext.mk1 e2.st hp (.lst vs)).ff))⟩)

/-! operators -/
theorem d_op {op : Operator} {r : R2} {pos : Pos} (ho : OpR X (binaryOp op) r) (ha : EvD X F a δ x) (hb : EvD X F b δ y) (hr : RD F r x y z) : EvD X F (.BinOp a op b pos) δ z := fun F1 H σ Q s c k =>
  we (pe_op ho pe pe) (ha F1 H σ _ s c fun v F2 H2 e2 r2 => hb F2 H2 σ _ (s.trans e2.ff) (c.ext e2) fun u F3 H3 e3 r3 =>
    hr δ.m F3 H3 v u Q ((s.trans e2.ff).trans e3.ff) e3.st (r2.mono e3.ff) r3 fun w F4 H4 e4 r4 => k w F4 H4 ((e2.trans e3).trans e4) r4)
theorem d_cmp {op : CmpOp} {r : R2} {pos : Pos} (ho : OpR X (compareOp op) r) (ha : EvD X F a δ x) (hb : EvD X F b δ y) (hr : RD F r x y z) (hm : behindInMarks op b = false := by first | exact nomark _ | rfl) : EvD X F (.Compare a [op] [b] pos) δ z := fun F1 H σ Q s c k =>
  we (pe_cmpR ho pe pe hm) (ha F1 H σ _ s c fun v F2 H2 e2 r2 => hb F2 H2 σ _ (s.trans e2.ff) (c.ext e2) fun u F3 H3 e3 r3 =>
    hr δ.m F3 H3 v u Q ((s.trans e2.ff).trans e3.ff) e3.st (r2.mono e3.ff) r3 fun w F4 H4 e4 r4 => k w F4 H4 ((e2.trans e3).trans e4) r4)
theorem d_ixR {r : R2} {pos : Pos} (ho : IxR X r) (ha : EvD X F a δ x) (hb : EvD X F b δ y) (hr : RD F r x y z) (hs : PlainIx b) : EvD X F (.Subscript a b pos) δ z := fun F1 H σ Q s c k =>
  we (pe_ix ho pe pe hs) (ha F1 H σ _ s c fun v F2 H2 e2 r2 => hb F2 H2 σ _ (s.trans e2.ff) (c.ext e2) fun u F3 H3 e3 r3 =>
    hr δ.m F3 H3 v u Q ((s.trans e2.ff).trans e3.ff) e3.st (r2.mono e3.ff) r3 fun w F4 H4 e4 r4 => k w F4 H4 ((e2.trans e3).trans e4) r4)
theorem rd_I0 {g : Int → Int → V} {i j : Int} (hz : ∀ F, Rep F (g i j) z) : RD F (rI0 g) (.int i) (.int j) z := fun m F1 H vx vy Q s s1 rx ry k => by
  cases rx; cases ry
  exact ⟨i, j, rfl, rfl, k _ F1 H (.refl s1) (hz _)⟩
theorem rd_I {C : Int → Int → Prop} {g : Int → Int → V} {i j : Int} (hc : C i j) (hz : ∀ F, Rep F (g i j) z) : RD F (rI C g) (.int i) (.int j) z := fun m F1 H vx vy Q s s1 rx ry k => by
  cases rx; cases ry
  exact ⟨i, j, rfl, rfl, hc, k _ F1 H (.refl s1) (hz _)⟩
section
variable {i j : Int} {pos : Pos}
theorem d_add (ha : EvD X F a δ (.int i)) (hb : EvD X F b δ (.int j)) : EvD X F (.BinOp a .Add b pos) δ (.int (i + j)) := d_op op_add ha hb (rd_I0 fun _ => .int _)
theorem d_sub (ha : EvD X F a δ (.int i)) (hb : EvD X F b δ (.int j)) : EvD X F (.BinOp a .Sub b pos) δ (.int (i - j)) := d_op op_sub ha hb (rd_I0 fun _ => .int _)
theorem d_mul (ha : EvD X F a δ (.int i)) (hb : EvD X F b δ (.int j)) (h : CMul i j) : EvD X F (.BinOp a .Mult b pos) δ (.int (i * j)) := d_op op_mul ha hb (rd_I h fun _ => .int _)
theorem d_mod (ha : EvD X F a δ (.int i)) (hb : EvD X F b δ (.int j)) (h : 0 < j) : EvD X F (.BinOp a .Mod b pos) δ (.int (i % j)) := d_op op_mod ha hb (rd_I h fun _ => .int _)
theorem d_fdiv (ha : EvD X F a δ (.int i)) (hb : EvD X F b δ (.int j)) (h : CDiv i j) : EvD X F (.BinOp a .FloorDiv b pos) δ (.int (i / j)) := d_op op_fdiv ha hb (rd_I h fun _ => .int _)
theorem d_lt (ha : EvD X F a δ (.int i)) (hb : EvD X F b δ (.int j)) : EvD X F (.Compare a [.Lt] [b] pos) δ (.bl (decide (i < j))) := d_cmp op_lt ha hb (rd_I0 fun _ => .bl _)
theorem d_le (ha : EvD X F a δ (.int i)) (hb : EvD X F b δ (.int j)) : EvD X F (.Compare a [.LtE] [b] pos) δ (.bl (decide (i ≤ j))) := d_cmp op_le ha hb (rd_I0 fun _ => .bl _)
theorem d_gt (ha : EvD X F a δ (.int i)) (hb : EvD X F b δ (.int j)) : EvD X F (.Compare a [.Gt] [b] pos) δ (.bl (decide (j < i))) := d_cmp op_gt ha hb (rd_I0 fun _ => .bl _)
theorem d_ge (ha : EvD X F a δ (.int i)) (hb : EvD X F b δ (.int j)) : EvD X F (.Compare a [.GtE] [b] pos) δ (.bl (decide (j ≤ i))) := d_cmp op_ge ha hb (rd_I0 fun _ => .bl _)
end
/-- the scalars that == tells apart -/
def scD : Dt → Dt → Bool
  | .non, .non => true | .non, .int _ => true | .int _, .non => true | .non, .bl _ => true | .bl _, .non => true | .non, .str _ => true | .str _, .non => true
  | .int _, .int _ => true | .bl _, .bl _ => true | .str _, .str _ => true
  | .int _, .str _ => true | .str _, .int _ => true | .bl _, .str _ => true | .str _, .bl _ => true
  | _, _ => false
def sameD : Dt → Dt → Bool
  | .non, .non => true
  | .int i, .int j => decide (i = j)
  | .bl i, .bl j => decide (i = j)
  | .str i, .str j => decide (i = j)
  | _, _ => false
theorem sc_of {F : Hp} {v u : V} (h : scD x y = true) (r : Rep F v x) (q : Rep F u y) : scal v u = true ∧ decide (v = u) = sameD x y := by
  cases r <;> cases q <;> first | (cases h; done) | (refine ⟨rfl, ?_⟩; simp [sameD])
theorem rd_eq (h : scD x y = true) : RD F rEq x y (.bl (sameD x y)) := fun m F1 H vx vy Q s s1 rx ry k => by
  obtain ⟨h1, h2⟩ := sc_of h rx ry
  exact ⟨h1, k _ F1 H (.refl s1) (by rw [h2]; exact .bl _)⟩
theorem rd_ne (h : scD x y = true) : RD F rNe x y (.bl (!sameD x y)) := fun m F1 H vx vy Q s s1 rx ry k => by
  obtain ⟨h1, h2⟩ := sc_of h rx ry
  exact ⟨h1, k _ F1 H (.refl s1) (by rw [h2]; exact .bl _)⟩
theorem d_eq {pos : Pos} (ha : EvD X F a δ x) (hb : EvD X F b δ y) (h : scD x y = true := by rfl) : EvD X F (.Compare a [.Eq] [b] pos) δ (.bl (sameD x y)) := d_cmp op_eq ha hb (rd_eq h)
theorem d_ne {pos : Pos} (ha : EvD X F a δ x) (hb : EvD X F b δ y) (h : scD x y = true := by rfl) : EvD X F (.Compare a [.NotEq] [b] pos) δ (.bl (!sameD x y)) := d_cmp op_ne ha hb (rd_ne h)
theorem d_isN {pos : Pos} {j p} (ha : EvD X F a δ x) {k : Bool} (hk : ∀ F v, Rep F v x → decide (v = .non) = k) : EvD X F (.Compare a [.Is] [.Constant .none j p] pos) δ (.bl k) := fun F1 H σ Q s c q =>
  we (pe_cmp (pc_isN pe)) (ha F1 H σ _ s c fun v F2 H2 e2 r2 => q _ F2 H2 e2 (by rw [hk F2 v r2]; exact .bl _))
theorem d_notN {pos : Pos} {j p} (ha : EvD X F a δ x) {k : Bool} (hk : ∀ F v, Rep F v x → decide (v = .non) = k) : EvD X F (.Compare a [.IsNot] [.Constant .none j p] pos) δ (.bl (!k)) := fun F1 H σ Q s c q =>
  we (pe_cmp (pc_notN pe)) (ha F1 H σ _ s c fun v F2 H2 e2 r2 => q _ F2 H2 e2 (by rw [hk F2 v r2]; exact .bl _))

/-! texts -/
section
variable {i j : Str} {pos : Pos}
theorem d_adds (ha : EvD X F a δ (.str i)) (hb : EvD X F b δ (.str j)) (h : i.length + j.length ≤ sizeLine) : EvD X F (.BinOp a .Add b pos) δ (.str (i ++ j)) := d_op op_add_str ha hb fun m F1 H vx vy Q s s1 rx ry k => by
  cases rx; cases ry
  exact ⟨i, j, rfl, rfl, h, k _ F1 H (.refl s1) (.str _)⟩
theorem d_ltS (ha : EvD X F a δ (.str i)) (hb : EvD X F b δ (.str j)) : EvD X F (.Compare a [.Lt] [b] pos) δ (.bl (decide (i.cps.toList < j.cps.toList))) := d_cmp op_lt_str ha hb fun m F1 H vx vy Q s s1 rx ry k => by
  cases rx; cases ry
  exact ⟨i, j, rfl, rfl, k _ F1 H (.refl s1) (.bl _)⟩
theorem d_leS (ha : EvD X F a δ (.str i)) (hb : EvD X F b δ (.str j)) : EvD X F (.Compare a [.LtE] [b] pos) δ (.bl (!decide (j.cps.toList < i.cps.toList))) := d_cmp op_le_str ha hb fun m F1 H vx vy Q s s1 rx ry k => by
  cases rx; cases ry
  exact ⟨i, j, rfl, rfl, k _ F1 H (.refl s1) (.bl _)⟩
theorem d_inS {c : Nat} (ha : EvD X F a δ (.str ⟨#[c]⟩)) (hb : EvD X F b δ (.str j)) (hm : behindInMarks .In b = false := by rfl) : EvD X F (.Compare a [.In] [b] pos) δ (.bl (decide (c ∈ j.cps.toList))) := d_cmp op_in_sign ha hb (fun m F1 H vx vy Q s s1 rx ry k => by
  cases rx; cases ry
  exact ⟨c, j, rfl, rfl, k _ F1 H (.refl s1) (.bl _)⟩) hm
theorem d_ixS {k : Int} {c : Nat} (ha : EvD X F a δ (.str i)) (hb : EvD X F b δ (.int k)) (hl : i.length ≤ sizeLine) (h : atI i.cps.toList k = some c) (hs : PlainIx b := by exact fun _ _ => rfl) : EvD X F (.Subscript a b pos) δ (.str ⟨#[c]⟩) := d_ixR ix_str ha hb (fun m F1 H vx vy Q s s1 rx ry q => by
  cases rx; cases ry
  exact ⟨i, k, c, rfl, rfl, hl, h, q _ F1 H (.refl s1) (.str _)⟩) hs
theorem d_ixT {k : Int} (ha : EvD X F a δ (.tup ds)) (hb : EvD X F b δ (.int k)) (h : atI ds k = some d) (hs : PlainIx b := by exact fun _ _ => rfl) : EvD X F (.Subscript a b pos) δ d := d_ixR ix_tup ha hb (fun m F1 H vx vy Q s s1 rx ry q => by
  cases ry
  cases rx with
  | tup hp ra =>
    obtain ⟨m, hm⟩ : ∃ m, ixN ds.length k = some m := by
      unfold atI at h
      cases e : ixN ds.length k with
      | none => rw [e] at h; cases h
      | some m => exact ⟨m, rfl⟩
    have h' : ds[m]? = some d := by unfold atI at h; rw [hm] at h; exact h
    obtain ⟨v, hv, rv⟩ := ra.get h'
    exact ⟨_, _, k, v, rfl, rfl, SqT.of (s1.sub _ _ hp), by unfold atI; rw [ra.length, hm]; exact hv, q _ F1 H (.refl s1) rv⟩) hs
theorem d_ixL {k : Int} (ha : EvD X F a δ (.lst ds)) (hb : EvD X F b δ (.int k)) (h : atI ds k = some d) (hs : PlainIx b := by exact fun _ _ => rfl) : EvD X F (.Subscript a b pos) δ d := d_ixR ix_list ha hb (fun m F1 H vx vy Q s s1 rx ry q => by
  cases ry
  cases rx with
  | lst hp ra =>
    obtain ⟨m, hm⟩ : ∃ m, ixN ds.length k = some m := by
      unfold atI at h
      cases e : ixN ds.length k with
      | none => rw [e] at h; cases h
      | some m => exact ⟨m, rfl⟩
    have h' : ds[m]? = some d := by unfold atI at h; rw [hm] at h; exact h
    obtain ⟨v, hv, rv⟩ := ra.get h'
    exact ⟨_, _, k, v, rfl, rfl, SqL.of (s1.sub _ _ hp), by unfold atI; rw [ra.length, hm]; exact hv, q _ F1 H (.refl s1) rv⟩) hs
end
end
end G

set_option Elab.async false
set_option linter.all false
set_option maxRecDepth 100000
set_option maxHeartbeats 4000000
namespace G
open PySem PySem.Spec PyProof.Rows L2
section
variable {X : Cx} {F : Hp} {δ : Sl} {e a b : Expr} {es : List Expr} {d x y z : Dt} {ds : List Dt} {Γ : Gm} {N : List Str} {sc : Scope}
/-! ### tests -/
theorem t_val {p : Bool} (h : EvD X F e δ (.bl p)) (he : ∀ whole, isTrue e X.env whole = (do let v ← whole; standAt e.pos; holding [v] (truthy v)) := by intro _; rfl) : EtD X F e δ p := fun F1 H σ Q s c k =>
  wt (pt_val pe he) (h F1 H σ _ s c fun v F' H' e' r => by cases r; exact ⟨p, rfl, k F' H' e'⟩)
theorem t_not {p : Bool} {pos : Pos} (h : EtD X F a δ p) : EtD X F (.UnaryOp .Not a pos) δ (!p) := fun F1 H σ Q s c k =>
  wt (pt_not pt) (h F1 H σ _ s c k)
def WW (X : Cx) (e : Expr) : TT := fun σ H Q => Sh (∀ (whole : Sem Value) pins s, Inv X pins σ H s → wpAny (model X.prog X.w) X.A (isTrue e X.env whole) (TP X pins σ Q) X.xe s)
theorem pw {X : Cx} {e : Expr} : PW X e (WW X e) := ⟨fun wh pins s _ _ _ I h => h.go wh pins s I⟩
theorem ww {e : Expr} {t : TT} (h : PW X e t) {σ : L2.St} {H : Hp} {Q : Bool → Hp → Prop} (q : t σ H Q) : WW X e σ H Q := ⟨fun wh pins s I => h.run wh pins s σ H Q I q⟩
def EwD (X : Cx) (F : Hp) (e : Expr) (δ : Sl) (b : Bool) : Prop := ∀ (F1 H : Hp) (σ : L2.St) (Q : Bool → Hp → Prop), Same F F1 → Ctx F1 H σ δ → (∀ F' H', Ex δ.m F1 H F' H' → Q b H') → WW X e σ H Q
theorem t_w {p : Bool} (h : EwD X F e δ p) : EtD X F e δ p := fun F1 H σ Q s c k => wt (PW.pt pw) (h F1 H σ Q s c k)
theorem EwD.to {k k' : Bool} (h : EwD X F e δ k) (q : k = k') : EwD X F e δ k' := q ▸ h
theorem w_and1 {p : Bool} {pos : Pos} (h : EtD X F a δ p) : EwD X F (.BoolOp .And [a] pos) δ p := fun F1 H σ Q s c k => ww (pw_and1 pt) (h F1 H σ Q s c k)
theorem w_or1 {p : Bool} {pos : Pos} (h : EtD X F a δ p) : EwD X F (.BoolOp .Or [a] pos) δ p := fun F1 H σ Q s c k => ww (pw_or1 pt) (h F1 H σ Q s c k)
theorem w_and {p q : Bool} {pos : Pos} {rest : List Expr} (h : EtD X F a δ p) (h2 : p = true → EwD X F (.BoolOp .And (b :: rest) pos) δ q) : EwD X F (.BoolOp .And (a :: b :: rest) pos) δ (p && q) := fun F1 H σ Q s c k =>
  ww (pw_and pt pw) (h F1 H σ _ s c fun F2 H2 e2 => by
    cases p with
    | true => exact h2 rfl F2 H2 σ Q (s.trans e2.ff) (c.ext e2) fun F3 H3 e3 => k F3 H3 (e2.trans e3)
    | false => exact k F2 H2 e2)
theorem w_or {p q : Bool} {pos : Pos} {rest : List Expr} (h : EtD X F a δ p) (h2 : p = false → EwD X F (.BoolOp .Or (b :: rest) pos) δ q) : EwD X F (.BoolOp .Or (a :: b :: rest) pos) δ (p || q) := fun F1 H σ Q s c k =>
  ww (pw_or pt pw) (h F1 H σ _ s c fun F2 H2 e2 => by
    cases p with
    | false => exact h2 rfl F2 H2 σ Q (s.trans e2.ff) (c.ext e2) fun F3 H3 e3 => k F3 H3 (e2.trans e3)
    | true => exact k F2 H2 e2)
/-- .. as values -/
theorem d_one {op} {pos : Pos} (h : EvD X F a δ d) : EvD X F (.BoolOp op [a] pos) δ d := fun F1 H σ Q s c k => we (pe_one pe) (h F1 H σ Q s c k)
theorem d_and {p : Bool} {pos : Pos} {rest : List Expr} (h : EvD X F a δ (.bl p)) (h2 : p = true → EvD X F (.BoolOp .And (b :: rest) pos) δ d) (h3 : p = false → d = .bl false) : EvD X F (.BoolOp .And (a :: b :: rest) pos) δ d := fun F1 H σ Q s c k =>
  we (pe_and pe pe) (h F1 H σ _ s c fun v F2 H2 e2 r2 => by
    cases r2
    cases p with
    | true => exact ⟨true, rfl, h2 rfl F2 H2 σ Q (s.trans e2.ff) (c.ext e2) fun v F3 H3 e3 => k v F3 H3 (e2.trans e3)⟩
    | false => exact ⟨false, rfl, k _ F2 H2 e2 (by rw [h3 rfl]; exact .bl false)⟩)
theorem d_or {p : Bool} {pos : Pos} {rest : List Expr} (h : EvD X F a δ (.bl p)) (h2 : p = false → EvD X F (.BoolOp .Or (b :: rest) pos) δ d) (h3 : p = true → d = .bl true) : EvD X F (.BoolOp .Or (a :: b :: rest) pos) δ d := fun F1 H σ Q s c k =>
  we (pe_or pe pe) (h F1 H σ _ s c fun v F2 H2 e2 r2 => by
    cases r2
    cases p with
    | false => exact ⟨false, rfl, h2 rfl F2 H2 σ Q (s.trans e2.ff) (c.ext e2) fun v F3 H3 e3 => k v F3 H3 (e2.trans e3)⟩
    | true => exact ⟨true, rfl, k _ F2 H2 e2 (by rw [h3 rfl]; exact .bl true)⟩)
theorem d_andB {p q : Bool} {pos : Pos} {rest : List Expr} (h : EvD X F a δ (.bl p)) (h2 : p = true → EvD X F (.BoolOp .And (b :: rest) pos) δ (.bl q)) : EvD X F (.BoolOp .And (a :: b :: rest) pos) δ (.bl (p && q)) := d_and h (fun hp => by subst hp; exact h2 rfl) (fun hp => by subst hp; rfl)
theorem d_orB {p q : Bool} {pos : Pos} {rest : List Expr} (h : EvD X F a δ (.bl p)) (h2 : p = false → EvD X F (.BoolOp .Or (b :: rest) pos) δ (.bl q)) : EvD X F (.BoolOp .Or (a :: b :: rest) pos) δ (.bl (p || q)) := d_or h (fun hp => by subst hp; exact h2 rfl) (fun hp => by subst hp; rfl)
theorem d_not {p : Bool} {pos : Pos} (h : EvD X F a δ (.bl p)) : EvD X F (.UnaryOp .Not a pos) δ (.bl (!p)) := fun F1 H σ Q s c k =>
  we (pe_not pe) (h F1 H σ _ s c fun v F2 H2 e2 r2 => by cases r2; exact ⟨p, rfl, k _ F2 H2 e2 (.bl _)⟩)
theorem d_ifx {c : Expr} {p : Bool} {pos : Pos} (h : EtD X F c δ p) (h1 : p = true → EvD X F a δ d) (h2 : p = false → EvD X F b δ d) : EvD X F (.IfExp c a b pos) δ d := fun F1 H σ Q s cc k =>
  we (pe_ifExp pt pe pe) (h F1 H σ _ s cc fun F2 H2 e2 => by
    cases p with
    | true => exact h1 rfl F2 H2 σ Q (s.trans e2.ff) (cc.ext e2) fun v F3 H3 e3 => k v F3 H3 (e2.trans e3)
    | false => exact h2 rfl F2 H2 σ Q (s.trans e2.ff) (cc.ext e2) fun v F3 H3 e3 => k v F3 H3 (e2.trans e3))

/-! ### calls -/
inductive Res where
  | ok (d : Dt) | err (C : Addr)
/-- a def's promise by data: what it answers, the knowledge growing -/
def spR (pre : Hp → List Dt → Res → Prop) : Sp := fun vs H Q E => ∃ F ds r m, Sta F H m ∧ RepA F vs ds ∧ pre F ds r ∧ (match r with
  | .ok d => ∀ v F' H', Ex m F H F' H' → Rep F' v d → Q v H'
  | .err C => ∀ F' H', Ex m F H F' H' → E (.ref C) none H')
/-- .. objects changing -/
inductive Rem where
  | ok (d : Dt) (m : Mm) | err (C : Addr) (m : Mm)
def spM (pre : Hp → List Dt → Mm → (Rem → Prop) → Prop) : Sp := fun vs H Q E => ∃ F ds m R, Sta F H m ∧ RepA F vs ds ∧ pre F ds m R ∧ ∀ r, R r → (match r with
  | .ok d m' => ∀ v F' H', Ext m F H F' H' m' → Rep F' v d → Q v H'
  | .err C m' => ∀ F' H', Ext m F H F' H' m' → E (.ref C) none H')
structure Cal (P : Program) (w : World) (K : PySem.W.Frag) (mg : Str → Option Value) (base : Heap) (cx : CXT) (k : Nat) (n : Str) (sp : Sp) : Prop where
  ex : ∃ f fd ps, FnOk P w K mg base cx k f fd ps sp ∧ mg n = some (.ref f) ∧ PySem.W.keepIn K (.ref f) = true ∧ Binds K fd ps []
theorem Cal.up {P : Program} {w : World} {K : PySem.W.Frag} {mg : Str → Option Value} {base : Heap} {cx : CXT} {k k' : Nat} {n : Str} {sp : Sp} (c : Cal P w K mg base cx k n sp) (h : k ≤ k') : Cal P w K mg base cx k' n sp := by
  obtain ⟨f, fd, ps, h1, h2, h3, h4⟩ := c.ex
  exact ⟨f, fd, ps, h1.mono h, h2, h3, h4⟩
theorem Cal.imp {P : Program} {w : World} {K : PySem.W.Frag} {mg : Str → Option Value} {base : Heap} {cx : CXT} {k : Nat} {n : Str} {sp sp' : Sp} (c : Cal P w K mg base cx k n sp) (h : ∀ vs H Q E, sp' vs H Q E → sp vs H Q E) : Cal P w K mg base cx k n sp' := by
  obtain ⟨f, fd, ps, h1, h2, h3, h4⟩ := c.ex
  exact ⟨f, fd, ps, h1.imp h, h2, h3, h4⟩
theorem c_call {cx : CXT} {k : Nat} {n : Str} {sp : Sp} {p pos : Pos} {E : XK} {t : TA} (C : Cal X.prog X.w X.K X.mg X.base cx k n sp) (hr : Room k X.A) (hg : Gl X n) (hx : Passes cx X E) (ha : PA X (e :: es) t)
    (hdb : (n == ("__debug__" : Str)) = false := by decide) (he : starEach (e :: es) X.env = (false, eval e X.env) :: starEach es X.env := by first | exact plSt | rfl) (hpl : (backTo pos (starEach es X.env)).any (·.1) = false := by rfl) :
    PE X (.Call (.Name n p) (e :: es) [] pos) (tCall sp [] E t) := by
  obtain ⟨f, fd, ps, h1, h2, h3, h4⟩ := C.ex
  exact pe_call h1 hr hg h2 h3 h4 .nil hx ha hdb he hpl
theorem Bd.cal [B : Bd X Γ N sc] {cx : CXT} {k : Nat} {n : Str} {sp : Sp} (C : Cal Γ.P Γ.w Γ.K Γ.mg Γ.base cx k n sp) : Cal X.prog X.w X.K X.mg X.base cx k n sp := by
  rw [B.prog, B.w, B.K, B.mg, B.base]
  exact C
theorem d_call [B : Bd X Γ N sc] {cx : CXT} {k : Nat} {n : Str} {pre : Hp → List Dt → Res → Prop} {p pos : Pos} (C : Cal Γ.P Γ.w Γ.K Γ.mg Γ.base cx k n (spR pre)) (hr : Room k Γ.A) (ha : EaD X F (e :: es) δ ds) (hpre : ∀ F1, Same F F1 → pre F1 ds (.ok d))
    (hg : glB sc n = true := by decide +kernel) (hx : Passes cx X E0 := by first | exact pass0 | exact passN) (he : starEach (e :: es) X.env = (false, eval e X.env) :: starEach es X.env := by first | exact plSt | rfl) (hpl : (backTo pos (starEach es X.env)).any (·.1) = false := by rfl) :
    EvD X F (.Call (.Name n p) (e :: es) [] pos) δ d := fun F1 H σ Q s c q =>
  we (c_call (B.cal C) (by rw [B.A]; exact hr) (B.gl hg).1 hx pa (B.gl hg).2.1 he hpl) (ha F1 H σ _ s c fun vs F2 H2 e2 r2 => by
    show spR pre (vs ++ []) H2 Q E0
    rw [List.append_nil]
    exact ⟨F2, ds, .ok d, δ.m, e2.st, r2, hpre F2 (s.trans e2.ff), fun v F3 H3 e3 r3 => q v F3 H3 (e2.trans e3) r3⟩)
/-- built-in functions and types by values -/
theorem d_bf [B : Bd X Γ N sc] {id : String} {n : Str} {r : List V → Hp → VK → Prop} {p pos : Pos} (hc : CallR X (.builtin id) r) (hm : Γ.mg n = none) (hv : bootBuiltins n = some (.builtin id)) (ha : EaD X F (e :: es) δ ds) (hr : RC F r ds d)
    (hg : glB sc n = true := by decide +kernel) (he : starEach (e :: es) X.env = (false, eval e X.env) :: starEach es X.env := by first | exact plSt | rfl) (hpl : (backTo pos (starEach es X.env)).any (·.1) = false := by rfl) : EvD X F (.Call (.Name n p) (e :: es) [] pos) δ d := fun F1 H σ Q s c q =>
  we (pe_callB hc (B.gl hg).1 (by rw [B.mg]; exact hm) hv pa (B.gl hg).2.2 (B.gl hg).2.1 he hpl) (ha F1 H σ _ s c fun vs F2 H2 e2 r2 => hr δ.m F2 H2 vs Q (s.trans e2.ff) e2.st r2 fun v F3 H3 e3 r3 => q v F3 H3 (e2.trans e3) r3)
theorem d_bt [B : Bd X Γ N sc] {T : String} {n : Str} {r : List V → Hp → VK → Prop} {p pos : Pos} (hc : CallR X (.type T) r) (hm : Γ.mg n = none) (hv : bootBuiltins n = some (.type T)) (ha : EaD X F (e :: es) δ ds) (hr : RC F r ds d)
    (hg : glB sc n = true := by decide +kernel) (he : starEach (e :: es) X.env = (false, eval e X.env) :: starEach es X.env := by first | exact plSt | rfl) (hpl : (backTo pos (starEach es X.env)).any (·.1) = false := by rfl) : EvD X F (.Call (.Name n p) (e :: es) [] pos) δ d := fun F1 H σ Q s c q =>
  we (pe_callTy hc (B.gl hg).1 (by rw [B.mg]; exact hm) hv pa (B.gl hg).2.2 (B.gl hg).2.1 he hpl) (ha F1 H σ _ s c fun vs F2 H2 e2 r2 => hr δ.m F2 H2 vs Q (s.trans e2.ff) e2.st r2 fun v F3 H3 e3 r3 => q v F3 H3 (e2.trans e3) r3)
theorem a_one (h : EvD X F e δ d) (hs : starEach [e] X.env = (false, eval e X.env) :: starEach [] X.env := by first | exact plSt | rfl) : EaD X F [e] δ [d] := a_cons h a_nil hs
/-- the last argument's list has no star -/
theorem pl0 {pos : Pos} : (backTo pos (starEach [] X.env)).any (·.1) = false := rfl
theorem d_ord [B : Bd X Γ N sc] {c : Nat} {p pos : Pos} (hm : Γ.mg "ord" = none) (h : EvD X F e δ (.str ⟨#[c]⟩)) (hg : glB sc "ord" = true := by decide +kernel) (he : starEach [e] X.env = (false, eval e X.env) :: starEach [] X.env := by first | exact plSt | rfl) :
    EvD X F (.Call (.Name "ord" p) [e] [] pos) δ (.int (c : Nat)) := d_bf call_ord hm (by decide +kernel) (a_one h he) (fun m F1 H vs Q s s1 r q => by
  cases r with
  | cons r1 r2 =>
    cases r2
    cases r1
    exact ⟨⟨#[c]⟩, rfl, rfl, q _ F1 H (.refl s1) (.int _)⟩) hg he pl0
theorem d_lenS [B : Bd X Γ N sc] {t : Str} {p pos : Pos} (hm : Γ.mg "len" = none) (h : EvD X F e δ (.str t)) (hz : t.length ≤ sizeLine) (hg : glB sc "len" = true := by decide +kernel) (he : starEach [e] X.env = (false, eval e X.env) :: starEach [] X.env := by first | exact plSt | rfl) :
    EvD X F (.Call (.Name "len" p) [e] [] pos) δ (.int (t.length : Nat)) := d_bf call_len_str hm PySem.boot_len (a_one h he) (fun m F1 H vs Q s s1 r q => by
  cases r with
  | cons r1 r2 =>
    cases r2
    cases r1
    exact ⟨t, rfl, hz, q _ F1 H (.refl s1) (.int _)⟩) hg he pl0
theorem d_lenT [B : Bd X Γ N sc] {p pos : Pos} (hm : Γ.mg "len" = none) (h : EvD X F e δ (.tup ds)) (hg : glB sc "len" = true := by decide +kernel) (he : starEach [e] X.env = (false, eval e X.env) :: starEach [] X.env := by first | exact plSt | rfl) :
    EvD X F (.Call (.Name "len" p) [e] [] pos) δ (.int (ds.length : Nat)) := d_bf call_len_seq hm PySem.boot_len (a_one h he) (fun m F1 H vs Q s s1 r q => by
  cases r with
  | cons r1 r2 =>
    cases r2
    cases r1 with
    | tup hp ra => exact ⟨_, _, rfl, .inr (SqT.of (s1.sub _ _ hp)), by rw [ra.length]; exact q _ F1 H (.refl s1) (.int _)⟩) hg he pl0
theorem d_lenL [B : Bd X Γ N sc] {p pos : Pos} (hm : Γ.mg "len" = none) (h : EvD X F e δ (.lst ds)) (hg : glB sc "len" = true := by decide +kernel) (he : starEach [e] X.env = (false, eval e X.env) :: starEach [] X.env := by first | exact plSt | rfl) :
    EvD X F (.Call (.Name "len" p) [e] [] pos) δ (.int (ds.length : Nat)) := d_bf call_len_seq hm PySem.boot_len (a_one h he) (fun m F1 H vs Q s s1 r q => by
  cases r with
  | cons r1 r2 =>
    cases r2
    cases r1 with
    | lst hp ra => exact ⟨_, _, rfl, .inl (SqL.of (s1.sub _ _ hp)), by rw [ra.length]; exact q _ F1 H (.refl s1) (.int _)⟩) hg he pl0
theorem d_min2 [B : Bd X Γ N sc] {i j : Int} {p pos : Pos} (hm : Γ.mg "min" = none) (ha : EvD X F a δ (.int i)) (hb : EvD X F b δ (.int j)) (hg : glB sc "min" = true := by decide +kernel)
    (he : starEach [a, b] X.env = (false, eval a X.env) :: starEach [b] X.env := by first | exact plSt | rfl) (he2 : starEach [b] X.env = (false, eval b X.env) :: starEach [] X.env := by first | exact plSt | rfl) (hpl : (backTo pos (starEach [b] X.env)).any (·.1) = false := by rfl) : EvD X F (.Call (.Name "min" p) [a, b] [] pos) δ (.int (if j < i then j else i)) := d_bf (call_min2 B.calm) hm (by decide +kernel) (a_cons ha (a_one hb he2) he) (fun m F1 H vs Q s s1 r q => by
  cases r with
  | cons r1 r2 =>
    cases r2 with
    | cons r2 r3 =>
      cases r1; cases r2; cases r3
      exact ⟨i, j, rfl, q _ F1 H (.refl s1) (.int _)⟩) hg he hpl
end

/-! ### statements -/
inductive Out where
  | nx (δ : Sl) | ret (d : Dt) (m : Mm) | brk (δ : Sl) | ct (δ : Sl) | err (C : Addr) (m : Mm)
def Post (m : Mm) (F H : Hp) (D : Ends) (W : WX) : Out → Prop
  | .nx δ => ∀ F' H' σ', Ext m F H F' H' δ.m → Ctx F' H' σ' δ → D.nx σ' H'
  | .ret d m' => ∀ v F' H', Ext m F H F' H' m' → Rep F' v d → D.rt v H'
  | .brk δ => ∀ F' H' σ', Ext m F H F' H' δ.m → Ctx F' H' σ' δ → D.bk σ' H'
  | .ct δ => ∀ F' H' σ', Ext m F H F' H' δ.m → Ctx F' H' σ' δ → D.ct σ' H'
  | .err C m' => ∀ F' H' σ', Ext m F H F' H' m' → W (.ref C) none σ' H'
theorem Post.ext {m m1 : Mm} {F H F1 H1 : Hp} {D : Ends} {W : WX} : ∀ {o : Out}, Ext m F H F1 H1 m1 → Post m F H D W o → Post m1 F1 H1 D W o
  | .nx _, e, p => fun F' H' σ' e' => p F' H' σ' (e.trans e')
  | .ret _ _, e, p => fun v F' H' e' => p v F' H' (e.trans e')
  | .brk _, e, p => fun F' H' σ' e' => p F' H' σ' (e.trans e')
  | .ct _, e, p => fun F' H' σ' e' => p F' H' σ' (e.trans e')
  | .err _ _, e, p => fun F' H' σ' e' => p F' H' σ' (e.trans e')
/-- a block, by data: each way out is one of O -/
def SD (X : Cx) (F : Hp) (st : List Stmt) (δ : Sl) (O : Out → Prop) : Prop := ∀ (F1 H : Hp) (σ : L2.St) (D : Ends) (W : WX), Same F F1 → L2N.Takes X W → Ctx F1 H σ δ → (∀ o, O o → Post δ.m F1 H D W o) → WSs X st D σ H
def S1 (X : Cx) (F : Hp) (st : Stmt) (δ : Sl) (O : Out → Prop) : Prop := ∀ (F1 H : Hp) (σ : L2.St) (D : Ends) (W : WX), Same F F1 → L2N.Takes X W → Ctx F1 H σ δ → (∀ o, O o → Post δ.m F1 H D W o) → WS X st D σ H
/-- an expression that may raise, and change objects -/
def EmD (X : Cx) (F : Hp) (e : Expr) (δ : Sl) (R : Rem → Prop) : Prop := ∀ (F1 H : Hp) (σ : L2.St) (Q : VK) (W : WX), Same F F1 → L2N.Takes X W → Ctx F1 H σ δ → (∀ r, R r → match r with
  | .ok d m' => ∀ v F' H', Ext δ.m F1 H F' H' m' → Rep F' v d → Q v H'
  | .err C m' => ∀ F' H' σ', Ext δ.m F1 H F' H' m' → W (.ref C) none σ' H') → WE X e σ H Q
/-- the rest, where the block went to its end -/
def Th (X : Cx) (F : Hp) (rest : List Stmt) (O : Out → Prop) : Out → Prop
  | .nx δ => SD X F rest δ O
  | o => O o
section
variable {X : Cx} {F : Hp} {δ δ1 : Sl} {e a b c : Expr} {es : List Expr} {d x y z : Dt} {ds : List Dt} {st body els rest : List Stmt} {O : Out → Prop} {pos : Pos} {n : Str} {Γ : Gm} {N : List Str} {sc : Scope}
theorem SD.know {F' : Hp} (h : SD X F st δ O) (s : Same F F') : SD X F' st δ O := fun F1 H σ D W s1 => h F1 H σ D W (s.trans s1)
theorem SD.mono {O' : Out → Prop} (h : SD X F st δ O) (k : ∀ o, O o → O' o) : SD X F st δ O' := fun F1 H σ D W s t c p => h F1 H σ D W s t c fun o ho => p o (k o ho)
theorem SD.pre {δ0 : Sl} (h : SD X F st δ O) (w : Wk δ0 δ) : SD X F st δ0 O := fun F1 H σ D W s t c p => h F1 H σ D W s t (c.wk w) fun o ho => (p o ho).ext ((Ext.refl c.st).wk w.m)
/-- what is known may be asked for -/
theorem SD.ctx (h : ∀ F1, Same F F1 → SD X F1 st δ O) : SD X F st δ O := fun F1 H σ D W s t c p => h F1 s F1 H σ D W (Same.refl _) t c p
theorem EvD.em (h : EvD X F e δ d) : EmD X F e δ (fun r => r = .ok d δ.m) := fun F1 H σ Q W s t c k => h F1 H σ Q s c (k _ rfl)
theorem s_nil (h : O (.nx δ)) : SD X F [] δ O := fun F1 H σ D W s t c p => wss pss_nil (p _ h F1 H σ (.refl c.st) c)
theorem s_asg [B : Bd X Γ N sc] [Bf X] (i : Nat) {pos' : Pos} (he : EvD X F e δ d) (hr : SD X F rest (δ.set i (some d)) O) (hi : N[i]? = some n := by rfl) (hx : locB sc n = true := by decide +kernel)
    (hs : swapsWith e (some (.Name n pos')) pos.line X.env = pure false := by rfl) :
    SD X F (.Assign [.Name n pos'] e pos :: rest) δ O := fun F1 H σ D W s t c p =>
  wss (pss_cons (ps_set (by rw [B.hN]; exact B.nd) (by rw [B.hN]; exact hi) (B.lf hx) pe hs (.inl (Bf.fn n))) pss) (he F1 H σ _ s c fun v F2 H2 e2 r2 => hr F2 H2 _ D W (s.trans e2.ff) t ((c.ext e2).set i r2) fun o ho => (p o ho).ext e2)
/-- .. of what may raise and change -/
theorem s_asgM [B : Bd X Γ N sc] [Bf X] (i : Nat) {R : Rem → Prop} {pos' : Pos} (he : EmD X F e δ R) (hr : ∀ d m', R (.ok d m') → SD X F rest ((δ.to m').set i (some d)) O) (hx' : ∀ C m', R (.err C m') → O (.err C m')) (hi : N[i]? = some n := by rfl) (hx : locB sc n = true := by decide +kernel)
    (hs : swapsWith e (some (.Name n pos')) pos.line X.env = pure false := by rfl) :
    SD X F (.Assign [.Name n pos'] e pos :: rest) δ O := fun F1 H σ D W s t c p =>
  wss (pss_cons (ps_set (by rw [B.hN]; exact B.nd) (by rw [B.hN]; exact hi) (B.lf hx) pe hs (.inl (Bf.fn n))) pss) (he F1 H σ _ W s t c fun r hR => by
    cases r with
    | ok d m' => exact fun v F2 H2 e2 r2 => hr d m' hR F2 H2 _ D W (s.trans e2.ff) t ((c.to e2).set i r2) fun o ho => (p o ho).ext e2
    | err C m' => exact fun F2 H2 σ2 e2 => p _ (hx' C m' hR) F2 H2 σ2 e2)
theorem s_exp (he : EvD X F e δ d) (hr : SD X F rest δ O) (hs : swapsWith e none pos.line X.env = pure false := by rfl) : SD X F (.Expr e pos :: rest) δ O := fun F1 H σ D W s t c p =>
  wss (pss_cons (ps_expr pe hs) pss) (he F1 H σ _ s c fun v F2 H2 e2 r2 => hr F2 H2 _ D W (s.trans e2.ff) t (c.ext e2) fun o ho => (p o ho).ext e2)
theorem s_expM {R : Rem → Prop} (he : EmD X F e δ R) (hr : ∀ d m', R (.ok d m') → SD X F rest (δ.to m') O) (hx' : ∀ C m', R (.err C m') → O (.err C m')) (hs : swapsWith e none pos.line X.env = pure false := by rfl) : SD X F (.Expr e pos :: rest) δ O := fun F1 H σ D W s t c p =>
  wss (pss_cons (ps_expr pe hs) pss) (he F1 H σ _ W s t c fun r hR => by
    cases r with
    | ok d m' => exact fun v F2 H2 e2 r2 => hr d m' hR F2 H2 _ D W (s.trans e2.ff) t (c.to e2) fun o ho => (p o ho).ext e2
    | err C m' => exact fun F2 H2 σ2 e2 => p _ (hx' C m' hR) F2 H2 σ2 e2)
theorem s_doc {t : Str} {j p1 p2} (hr : SD X F rest δ O) : SD X F (.Expr (.Constant (.str t) j p1) p2 :: rest) δ O := fun F1 H σ D W s t c p => wss (pss_cons ps_doc pss) (hr F1 H σ D W s t c p)
theorem s_ret (he : EvD X F e δ d) (ho : O (.ret d δ.m)) : SD X F (.Return (some e) pos :: rest) δ O := fun F1 H σ D W s t c p =>
  wss (pss_cons (ps_ret pe) pss) (he F1 H σ _ s c fun v F2 H2 e2 r2 => p _ ho v F2 H2 e2 r2)
theorem s_retM {R : Rem → Prop} (he : EmD X F e δ R) (hr : ∀ d m', R (.ok d m') → O (.ret d m')) (hx' : ∀ C m', R (.err C m') → O (.err C m')) : SD X F (.Return (some e) pos :: rest) δ O := fun F1 H σ D W s t c p =>
  wss (pss_cons (ps_ret pe) pss) (he F1 H σ _ W s t c fun r hR => by
    cases r with
    | ok d m' => exact fun v F2 H2 e2 r2 => p _ (hr d m' hR) v F2 H2 e2 r2
    | err C m' => exact fun F2 H2 σ2 e2 => p _ (hx' C m' hR) F2 H2 σ2 e2)
theorem s_retN (ho : O (.ret .non δ.m)) : SD X F (.Return none pos :: rest) δ O := fun F1 H σ D W s t c p => wss (pss_cons ps_retN pss) (p _ ho _ F1 H (.refl c.st) .non)
theorem s_brk (ho : O (.brk δ)) : SD X F (.Break pos :: rest) δ O := fun F1 H σ D W s t c p => wss (pss_cons ps_break pss) (p _ ho F1 H σ (.refl c.st) c)
theorem s_ct (ho : O (.ct δ)) : SD X F (.Continue pos :: rest) δ O := fun F1 H σ D W s t c p => wss (pss_cons ps_continue pss) (p _ ho F1 H σ (.refl c.st) c)
theorem s_pass (hr : SD X F rest δ O) : SD X F (.Pass pos :: rest) δ O := fun F1 H σ D W s t c p => wss (pss_cons ps_pass pss) (hr F1 H σ D W s t c p)
/-- one statement, then the rest -/
theorem th_post {F1 H : Hp} {D : Ends} {W : WX} {δ0 : Sl} (s : Same F F1) (t : L2N.Takes X W) (p : ∀ o, O o → Post δ0.m F1 H D W o) : ∀ o, Th X F rest O o → Post δ0.m F1 H { D with nx := WSs X rest D } W o := fun o ho => by
  cases o with
  | nx δ' => exact fun F' H' σ' e' c' => (show SD X F rest δ' O from ho) F' H' σ' D W (s.trans e'.ff) t c' fun o ho => (p o ho).ext e'
  | ret d m => exact p _ ho
  | brk d => exact p _ ho
  | ct d => exact p _ ho
  | err d m => exact p _ ho
theorem s_seq {st : Stmt} (h : S1 X F st δ (Th X F rest O)) : SD X F (st :: rest) δ O := fun F1 H σ D W s t c p =>
  wss (pss_cons ps pss) (h F1 H σ _ W s t c (th_post s t p))
theorem SD.app (h : SD X F st δ (Th X F rest O)) : ∀ F1 H σ D W, Same F F1 → L2N.Takes X W → Ctx F1 H σ δ → (∀ o, O o → Post δ.m F1 H D W o) → WSs X st { D with nx := WSs X rest D } σ H := fun F1 H σ D W s t c p =>
  h F1 H σ _ W s t c (th_post s t p)
theorem if1 {k : Bool} (hc : EtD X F c δ k) (h1 : k = true → SD X F body δ O) (h2 : k = false → SD X F els δ O) : S1 X F (.If c body els pos) δ O := fun F1 H σ D W s t cc p =>
  ws (ps_if pt pss pss) (hc F1 H σ _ s cc fun F2 H2 e2 => by
    cases k with
    | true => exact h1 rfl F2 H2 σ D W (s.trans e2.ff) t (cc.ext e2) fun o ho => (p o ho).ext e2
    | false => exact h2 rfl F2 H2 σ D W (s.trans e2.ff) t (cc.ext e2) fun o ho => (p o ho).ext e2)
theorem s_if {k : Bool} (hc : EtD X F c δ k) (h1 : k = true → SD X F body δ (Th X F rest O)) (h2 : k = false → SD X F els δ (Th X F rest O)) : SD X F (.If c body els pos :: rest) δ O := s_seq (if1 hc h1 h2)
/-- no else -/
theorem s_when {k : Bool} (hc : EtD X F c δ k) (h1 : k = true → SD X F body δ (Th X F rest O)) (h2 : k = false → SD X F rest δ O) : SD X F (.If c body [] pos :: rest) δ O :=
  s_if hc h1 fun hk => s_nil (h2 hk)
theorem s_ifT (hc : EtD X F c δ true) (h1 : SD X F body δ (Th X F rest O)) : SD X F (.If c body els pos :: rest) δ O := s_if hc (fun _ => h1) (fun h => nomatch h)
theorem s_ifF (hc : EtD X F c δ false) (h1 : SD X F els δ (Th X F rest O)) : SD X F (.If c body els pos :: rest) δ O := s_if hc (fun h => nomatch h) (fun _ => h1)
theorem s_no (hc : EtD X F c δ false) (h1 : SD X F rest δ O) : SD X F (.If c body [] pos :: rest) δ O := s_when hc (fun h => nomatch h) (fun _ => h1)
/-- targets -/
def TgD (X : Cx) (F : Hp) (tg : Expr) (d : Dt) (δ δ' : Sl) : Prop := δ'.m = δ.m ∧ ∀ (F1 H : Hp) (σ : L2.St) (v : V) (Q : L2.St → Hp → Prop), Same F F1 → Ctx F1 H σ δ → Rep F1 v d → (∀ F' H' σ', Ex δ.m F1 H F' H' → Ctx F' H' σ' δ' → Q σ' H') → WG X tg v σ H Q
theorem g_n [B : Bd X Γ N sc] [Bf X] (i : Nat) (hi : N[i]? = some n := by rfl) (hx : locB sc n = true := by decide +kernel) :
    TgD X F (.Name n pos) d δ (δ.set i (some d)) := ⟨rfl, fun F1 H σ v Q s c r q => wg (pg_name (by rw [B.hN]; exact B.nd) (by rw [B.hN]; exact hi) (B.lf hx) (.inl (Bf.fn n))) (q F1 H _ (.refl c.st) (c.set i r))⟩
theorem g_tup2 [B : Bd X Γ N sc] {t1 t2 : Expr} {kk : Nat} {δ2 : Sl} (h1 : TgD X F t1 x δ δ1) (h2 : TgD X F t2 y δ1 δ2)
    (hs : (assignEach [t1, t2] X.env).map (·.2) = assign t1 X.env :: (assignEach [t2] X.env).map (·.2) := by rfl) (hs2 : (assignEach [t2] X.env).map (·.2) = assign t2 X.env :: (assignEach [] X.env).map (·.2) := by rfl)
    (hn : (assignEach [t1, t2] X.env).length = 2 := by rfl) (hst : (assignEach [t1, t2] X.env).findIdx? (·.1) = none := by rfl) :
    TgD X F (.Tuple [t1, t2] kk pos) (.tup [x, y]) δ δ2 := ⟨h2.1.trans h1.1, fun F1 H σ v Q s c r q => by
  cases r with
  | tup hp ra =>
    cases ra with
    | cons r1 ra =>
      cases ra with
      | cons r2 ra =>
        cases ra
        refine wg (pg_tup B.calm (pgs_cons pg (pgs_cons pg pgs_nil hs2) hs) hn hst) ⟨_, _, rfl, SqT.of (c.sub _ _ hp), rfl, _, _, rfl, ?_⟩
        refine h1.2 F1 H σ _ _ s c r1 fun F2 H2 σ2 e2 c2 => ⟨_, _, rfl, ?_⟩
        exact h2.2 F2 H2 σ2 _ _ (s.trans e2.ff) c2 (r2.mono e2.ff) fun F3 H3 σ3 e3 c3 => ⟨rfl, q F3 H3 σ3 (e2.trans (by rw [h1.1] at e3; exact e3)) c3⟩⟩
theorem s_asgG {tg : Expr} (he : EvD X F e δ d) (hg : TgD X F tg d δ δ1) (hr : SD X F rest δ1 O) (hs : swapsWithSole [tg] e pos.line X.env = pure false := by rfl) (hw : swappedStores [tg] e X.env = pure none := by rfl)
    (h1 : (assignEach [tg] X.env).map (·.2) = [assign tg X.env] := by rfl) : SD X F (.Assign [tg] e pos :: rest) δ O := fun F1 H σ D W s t c p =>
  wss (pss_cons (ps_asg pe pg hs hw h1) pss) (he F1 H σ _ s c fun v F2 H2 e2 r2 => hg.2 F2 H2 σ v _ (s.trans e2.ff) (c.ext e2) r2 fun F3 H3 σ3 e3 c3 =>
    hr F3 H3 σ3 D W ((s.trans e2.ff).trans e3.ff) t c3 fun o ho => by rw [hg.1]; exact (p o ho).ext (e2.trans e3))
end
end G

set_option Elab.async false
set_option linter.all false
set_option maxRecDepth 100000
set_option maxHeartbeats 4000000
namespace G
open PySem PySem.Spec PyProof.Rows L2
/-! ### walks -/
/-- the objects that a walk leans on -/
abbrev Lk (L : List (Addr × HO)) (H : Hp) : Prop := ∀ p ∈ L, H p.1 = some p.2
structure Yields (J : It) (F : Hp) (L : List (Addr × HO)) (ds : List Dt) : Prop where
  go : ∀ i H, Same F H → Lk L H → i < ds.length → J.go i H
  yld : ∀ (i : Nat) (d : Dt) (m : Mm) (Fc H : Hp) (x : V) (H' : Hp), ds[i]? = some d → Same F Fc → Sta Fc H m → Lk L H → J.yld i H x H' → ∃ F', Ex m Fc H F' H' ∧ Rep F' x d
  stop : ∀ i H, Same F H → Lk L H → ds.length ≤ i → J.stop i H
def WI (X : Cx) (tg iter : Expr) : TI := fun σ H R => Sh (∀ pins s, Inv X pins σ H s → wpAny (model X.prog X.w) X.A (eval iter X.env) (fun v s1 => wpAny (model X.prog X.w) X.A (pyIter v) (PIE X pins σ tg R) X.xe s1) X.xe s)
theorem pi {X : Cx} {tg iter : Expr} : PI X tg iter (WI X tg iter) := ⟨fun pins s _ _ _ I h => h.go pins s I⟩
theorem wi {X : Cx} {tg iter : Expr} {t : TI} (h : PI X tg iter t) {σ : L2.St} {H : Hp} {R : It → Hp → Prop} (q : t σ H R) : WI X tg iter σ H R := ⟨fun pins s I => h.run pins s σ H R I q⟩
def IterD (X : Cx) (F : Hp) (L : List (Addr × HO)) (tg iter : Expr) (δ : Sl) (ds : List Dt) : Prop := ∀ (F1 H : Hp) (σ : L2.St) (R : It → Hp → Prop), Same F F1 → Ctx F1 H σ δ → (∀ J F' H', Ex δ.m F1 H F' H' → Yields J F' L ds → R J H') → WI X tg iter σ H R
theorem IterD.to {X : Cx} {F : Hp} {L : List (Addr × HO)} {tg iter : Expr} {δ : Sl} {ds ds' : List Dt} (h : IterD X F L tg iter δ ds) (e : ds = ds') : IterD X F L tg iter δ ds' := e ▸ h
section
variable {X : Cx} {F : Hp} {δ δ1 : Sl} {e a b c tg iter : Expr} {es : List Expr} {d x y z : Dt} {ds : List Dt} {st body els rest : List Stmt} {O : Out → Prop} {L : List (Addr × HO)} {pos p : Pos} {n : Str} {Γ : Gm} {N : List Str} {sc : Scope}
theorem same_seqL {K : PySem.W.Frag} {F H : Hp} {a : Addr} {xs : List V} (s : Same F H) (h : F a = some (.lst xs)) : SqL K H a xs := SqL.of (s _ _ h)
theorem i_lst (he : EvD X F e δ (.lst ds)) : IterD X F [] tg e δ ds := fun F1 H σ R s c k =>
  wi (pi_list pe) (he F1 H σ _ s c fun v F2 H2 e2 r2 => by
    cases r2 with
    | lst hp ra => exact ⟨_, rfl, ⟨_, SqL.of (e2.sub _ _ hp)⟩, k _ F2 H2 e2 ⟨
        fun i H' s' _ hi => by
          obtain ⟨v, hv, _⟩ := ra.get (List.getElem?_eq_getElem hi)
          exact ⟨_, v, SqL.of (s' _ _ hp), hv⟩,
        fun i d m Fc H' x H'' hi s1 s2 _ hy => by
          obtain ⟨rfl, hy⟩ := hy
          obtain ⟨v, hv, rv⟩ := ra.get hi
          have q := hy _ (SqL.of (s2.sub _ _ (s1 _ _ hp)))
          rw [hv] at q; cases q
          exact ⟨Fc, .refl s2, rv.mono s1⟩,
        fun i H' s' _ hi => ⟨_, SqL.of (s' _ _ hp), by rw [ra.length]; exact hi⟩⟩⟩)
theorem i_tup (he : EvD X F e δ (.tup ds)) : IterD X F [] tg e δ ds := fun F1 H σ R s c k =>
  wi (pi_tup pe) (he F1 H σ _ s c fun v F2 H2 e2 r2 => by
    cases r2 with
    | tup hp ra => exact ⟨_, rfl, ⟨_, SqT.of (e2.sub _ _ hp)⟩, k _ F2 H2 e2 ⟨
        fun i H' s' _ hi => by
          obtain ⟨v, hv, _⟩ := ra.get (List.getElem?_eq_getElem hi)
          exact ⟨_, v, SqT.of (s' _ _ hp), hv⟩,
        fun i d m Fc H' x H'' hi s1 s2 _ hy => by
          obtain ⟨rfl, hy⟩ := hy
          obtain ⟨v, hv, rv⟩ := ra.get hi
          have q := hy _ (SqT.of (s2.sub _ _ (s1 _ _ hp)))
          rw [hv] at q; cases q
          exact ⟨Fc, .refl s2, rv.mono s1⟩,
        fun i H' s' _ hi => ⟨_, SqT.of (s' _ _ hp), by rw [ra.length]; exact hi⟩⟩⟩)
theorem yields_rng {F : Hp} {lo : Int} {m : Nat} : Yields (Itr lo m) F [] ((List.range m).map fun i => Dt.int (lo + (i : Nat))) where
  go := fun i H _ _ hi => by
    show i < m
    simpa using hi
  yld := fun i d _ Fc H x H' hi s1 s2 _ hy => by
    obtain ⟨rfl, rfl⟩ := hy
    have hi' : d = Dt.int (lo + (i : Nat)) := by
      rw [List.getElem?_map] at hi
      obtain ⟨j, hj, rfl⟩ := Option.map_eq_some_iff.mp hi
      obtain ⟨h1, h2⟩ := List.getElem?_eq_some_iff.mp hj
      rw [List.getElem_range] at h2
      rw [h2]
    rw [hi']
    exact ⟨Fc, .refl s2, .int _⟩
  stop := fun i H _ _ hi => by
    show m ≤ i
    simpa using hi
theorem i_rng1 [B : Bd X Γ N sc] {j : Int} (hm : Γ.mg "range" = none) (ha : EvD X F a δ (.int j)) (h1 : -(2 ^ 62) ≤ j) (h2 : j < 2 ^ 62) (hg : glB sc "range" = true := by decide +kernel) (hs : starEach [a] X.env = [(false, eval a X.env)] := by rfl) :
    IterD X F [] tg (.Call (.Name "range" p) [a] [] pos) δ ((List.range j.toNat).map fun i => Dt.int ((0 : Int) + (i : Nat))) := fun F1 H σ R s c k =>
  wi (pi_range1 (B.gl hg).1 (by rw [B.mg]; exact hm) pa hs) (a_one ha hs F1 H σ _ s c fun vs F2 H2 e2 r2 => by
    cases r2 with
    | cons r1 r2 =>
      cases r2
      cases r1
      exact ⟨j, rfl, h1, h2, k _ F2 H2 e2 yields_rng⟩)
theorem i_rng2 [B : Bd X Γ N sc] {i j : Int} (hm : Γ.mg "range" = none) (ha : EvD X F a δ (.int i)) (hb : EvD X F b δ (.int j)) (h : -(2 ^ 62) ≤ i ∧ i < 2 ^ 62 ∧ -(2 ^ 62) ≤ j ∧ j < 2 ^ 62) (hg : glB sc "range" = true := by decide +kernel) (hs : starEach [a, b] X.env = [(false, eval a X.env), (false, eval b X.env)] := by rfl) (hs2 : starEach [b] X.env = [(false, eval b X.env)] := by rfl) :
    IterD X F [] tg (.Call (.Name "range" p) [a, b] [] pos) δ ((List.range (j - i).toNat).map fun k => Dt.int (i + (k : Nat))) := fun F1 H σ R s c k =>
  wi (pi_range2 (B.gl hg).1 (by rw [B.mg]; exact hm) pa hs hs2) (a_cons ha (a_one hb hs2) (by rw [hs, hs2]) F1 H σ _ s c fun vs F2 H2 e2 r2 => by
    cases r2 with
    | cons r1 r2 =>
      cases r2 with
      | cons r2 r3 =>
        cases r3
        cases r1
        cases r2
        exact ⟨i, j, rfl, h, k _ F2 H2 e2 yields_rng⟩)
/-- what a turn's block comes to -/
def Turn1 (O : Out → Prop) (I : Sl → Prop) : Out → Prop
  | .nx δ => ∃ δ', Wk δ δ' ∧ I δ'
  | .ct δ => ∃ δ', Wk δ δ' ∧ I δ'
  | .brk δ => O (.nx δ)
  | o => O o
abbrev Turn (X : Cx) (F : Hp) (rest : List Stmt) (O : Out → Prop) (I : Sl → Prop) : Out → Prop := Turn1 (Th X F rest O) I
theorem Turn.nx {I : Sl → Prop} {δ : Sl} (h : I δ) : Turn1 O I (.nx δ) := ⟨δ, .refl δ, h⟩
theorem Turn.ct {I : Sl → Prop} {δ : Sl} (h : I δ) : Turn1 O I (.ct δ) := ⟨δ, .refl δ, h⟩
theorem turn1_post {F1 H : Hp} {D : Ends} {W : WX} {m : Mm} {I : Sl → Prop} {N : L2.St → Hp → Prop} (p : ∀ o, O o → Post m F1 H D W o)
    (hN : ∀ δ' F' H' σ', I δ' → Ext m F1 H F' H' δ'.m → Ctx F' H' σ' δ' → N σ' H') : ∀ o, Turn1 O I o → Post m F1 H { D with nx := N, ct := N, bk := D.nx } W o := fun o ho => by
  cases o with
  | nx δ' =>
    obtain ⟨δ2, w, h⟩ := ho
    exact fun F' H' σ' e' c' => hN δ2 F' H' σ' h (e'.wk w.m) (c'.wk w)
  | ct δ' =>
    obtain ⟨δ2, w, h⟩ := ho
    exact fun F' H' σ' e' c' => hN δ2 F' H' σ' h (e'.wk w.m) (c'.wk w)
  | brk δ' => exact p (.nx δ') ho
  | ret d m' => exact p (.ret d m') ho
  | err C m' => exact p (.err C m') ho
theorem for1 [B : Bd X Γ N sc] (hI : IterD X F L tg iter δ ds) (I : Nat → Sl → Prop) (h0 : I 0 δ)
    (turn : ∀ i d δi, I i δi → ds[i]? = some d → ∃ δ1, TgD X F tg d δi δ1 ∧ SD X F body δ1 (Turn1 O (I (i + 1))))
    (fin : ∀ δn, I ds.length δn → O (.nx δn))
    (hL : ∀ i δi, I i δi → ∀ p ∈ L, (p.1, Md.lck p.2) ∈ δi.m := by exact fun _ _ _ _ h => nomatch h)
    (hs : ∀ x, foldedSetIterable iter X.env x = pure x := by intro _; rfl) : S1 X F (.For tg iter body [] pos) δ O := fun F1 H σ D W s t c p =>
  ws (ps_for B.po B.calm pi pg pss hs) (hI F1 H σ _ s c fun J F2 H2 e2 Y => by
    refine ⟨fun i m σ' H' => m = ds.length - i ∧ i ≤ ds.length ∧ ∃ F' δi, I i δi ∧ Ext δ.m F2 H2 F' H' δi.m ∧ Ctx F' H' σ' δi, ⟨ds.length, by simp, Nat.zero_le _, F2, δ, h0, .refl e2.st, c.ext e2⟩, ?_⟩
    rintro i m σ' H' ⟨rfl, hi, F', δi, hIi, e', c'⟩
    have sF : Same F F' := (s.trans e2.ff).trans e'.ff
    have lk : Lk L H' := fun q hq => by
      obtain ⟨_, o, h1, h2⟩ := c'.st.cell q.1 _ (hL i δi hIi q hq)
      cases h2
      exact h1
    by_cases hlt : i < ds.length
    · refine .inr ⟨Y.go i H' (e'.ff.trans e'.sub) lk hlt, fun σ'' H'' => ∃ F'' δ'', I (i + 1) δ'' ∧ Ext δ.m F2 H2 F'' H'' δ''.m ∧ Ctx F'' H'' σ'' δ'', fun σ'' H'' hh => ⟨ds.length - (i + 1), by omega, rfl, hlt, hh⟩, fun x H'' hy => ?_⟩
      obtain ⟨F'', e'', r''⟩ := Y.yld i ds[i] δi.m F' H' x H'' (List.getElem?_eq_getElem hlt) e'.ff e'.st lk hy
      obtain ⟨δ1, ht, hb⟩ := turn i ds[i] δi hIi (List.getElem?_eq_getElem hlt)
      refine ht.2 F'' H'' σ' x _ (sF.trans e''.ff) (c'.ext e'') r'' fun F3 H3 σ3 e3 c3 => ?_
      have e13 : Ext δ.m F2 H2 F3 H3 δ1.m := by rw [ht.1]; exact (e'.trans e'').trans e3
      refine hb F3 H3 σ3 _ W ((sF.trans e''.ff).trans e3.ff) t c3 (turn1_post (fun o ho => (p o ho).ext (e2.trans e13)) fun δ' F4 H4 σ4 h4 e4 c4 => ⟨F4, δ', h4, e13.trans e4, c4⟩)
    · have e0 : i = ds.length := by omega
      subst e0
      exact .inl ⟨Y.stop _ H' (e'.ff.trans e'.sub) lk (Nat.le_refl _), p _ (fin δi hIi) F' H' σ' (e2.trans e') c'⟩)
theorem s_for [B : Bd X Γ N sc] (hI : IterD X F L tg iter δ ds) (I : Nat → Sl → Prop) (h0 : I 0 δ)
    (turn : ∀ i d δi, I i δi → ds[i]? = some d → ∃ δ1, TgD X F tg d δi δ1 ∧ SD X F body δ1 (Turn X F rest O (I (i + 1))))
    (fin : ∀ δn, I ds.length δn → SD X F rest δn O)
    (hL : ∀ i δi, I i δi → ∀ p ∈ L, (p.1, Md.lck p.2) ∈ δi.m := by exact fun _ _ _ _ h => nomatch h)
    (hs : ∀ x, foldedSetIterable iter X.env x = pure x := by intro _; rfl) : SD X F (.For tg iter body [] pos :: rest) δ O := s_seq (for1 hI I h0 turn fin hL hs)
theorem s_while [B : Bd X Γ N sc] (I : Nat → Sl → Prop) (h0 : ∃ k, I k δ)
    (turn : ∀ k δi, I k δi → ∃ b, EtD X F c δi b ∧ (b = true → SD X F body δi (Turn X F rest O fun δ' => ∃ k', k' < k ∧ I k' δ')) ∧ (b = false → SD X F rest δi O)) :
    SD X F (.While c body [] pos :: rest) δ O := fun F1 H σ D W s t cc p =>
  wss (pss_cons (ps_while B.po pt pss) pss) (by
    obtain ⟨k0, hk0⟩ := h0
    refine ⟨fun k σ' H' => ∃ F' δi, I k δi ∧ Ext δ.m F1 H F' H' δi.m ∧ Ctx F' H' σ' δi, ⟨k0, F1, δ, hk0, .refl cc.st, cc⟩, ?_⟩
    rintro k σ' H' ⟨F', δi, hI, e', c'⟩
    obtain ⟨b, hc, h1, h2⟩ := turn k δi hI
    have sF : Same F F' := s.trans e'.ff
    refine hc F' H' σ' _ sF c' fun F2 H2 e2 => ?_
    have e12 := e'.trans e2
    by_cases hb : b = true
    · rw [if_pos hb]
      exact ⟨fun σ'' H'' => ∃ k', k' < k ∧ ∃ F' δi, I k' δi ∧ Ext δ.m F1 H F' H'' δi.m ∧ Ctx F' H'' σ'' δi, fun σ'' H'' hh => hh, h1 hb F2 H2 σ' _ W (sF.trans e2.ff) t (c'.ext e2) (turn1_post (fun o ho => (th_post s t p o ho).ext e12) fun δ' F4 H4 σ4 ⟨k', hk', h4⟩ e4 c4 => ⟨k', hk', F4, δ', h4, e12.trans e4, c4⟩)⟩
    · rw [if_neg hb]
      have hb' : b = false := by simpa using hb
      exact h2 hb' F2 H2 σ' D W (sF.trans e2.ff) t (c'.ext e2) fun o ho => (p o ho).ext e12)
end
end G

set_option Elab.async false
set_option linter.all false
set_option maxRecDepth 100000
set_option maxHeartbeats 4000000
namespace G
open PySem PySem.Spec PyProof.Rows L2
/-! ### a def by its body, by data -/
def startD (N : List Str) (ds : List Dt) (m : Mm) : Sl := ⟨ds.map some ++ List.replicate (N.length - ds.length) none, m⟩
theorem start_ctx {F H : Hp} {N : List Str} {vs : List V} {ds : List Dt} {m : Mm} (s : Sta F H m) (r : RepA F vs ds) (hl : ds.length ≤ N.length) : Ctx F H (L2.start N vs) (startD N ds m) := by
  have hr := r.length
  refine ⟨s, fun i d h => ?_, ?_⟩
  · unfold startD at h
    unfold L2.start
    by_cases hi : i < ds.length
    · rw [List.getElem?_append_left (by simpa using hi), List.getElem?_map] at h
      obtain ⟨d', h1, h2⟩ := Option.map_eq_some_iff.mp h
      cases h2
      obtain ⟨v, hv, rv⟩ := r.get h1
      refine ⟨v, ?_, rv⟩
      rw [List.getElem?_append_left (by rw [List.length_map, r.length]; exact hi), List.getElem?_map, hv]
      rfl
    · rw [List.getElem?_append_right (by simpa using hi), List.getElem?_replicate] at h
      split at h <;> cases h
  · unfold startD L2.start
    simp only [List.length_append, List.length_map, List.length_replicate]
    omega
section
variable {P : Program} {w : World} {K : PySem.W.Frag} {mg : Str → Option Value} {base : Heap} {x qual : Str} {st : Stmt} {f : Addr} {fd : FuncData} {N ps : List Str} {k : Nat} {pre : Hp → List Dt → Res → Prop}
/-- the end of a def's block -/
def EndD (r : Res) : Out → Prop
  | .ret d _ => r = .ok d
  | .nx _ => r = .ok .non
  | .err C _ => r = .err C
  | _ => False
def EndM (R : Rem → Prop) : Out → Prop
  | .ret d m => ∃ m', SubP m' m ∧ R (.ok d m')
  | .nx δ => ∃ m', SubP m' δ.m ∧ R (.ok .non m')
  | .err C m => ∃ m', SubP m' m ∧ R (.err C m')
  | _ => False
theorem FnScope.len_le (S : FnScope N ps (defScope st)) : ps.length ≤ N.length := by
  have := congrArg List.length S.pre
  rw [List.length_take] at this
  omega
theorem bd0 {sc : Scope} {cdv : Value} {A : Around} {outer : List Env} {s : Shared} {H : Hp} {E : XK} (S : FnScope N ps sc) : Bd (cxOf CX0 P w K mg base N qual sc f cdv A outer s H E).nox ⟨P, w, K, mg, base, A.deeper (envOfC qual sc s.heap.objs.size f cdv)⟩ N sc :=
  ⟨rfl, rfl, rfl, rfl, rfl, rfl, rfl, rfl, rfl, S.nd, PassesOwn.never⟩
theorem bd1 {sc : Scope} {cdv : Value} {A : Around} {outer : List Env} {s : Shared} {H : Hp} {E : XK} (S : FnScope N ps sc) : Bd (cxOf (L2N.CX P w) P w K mg base N qual sc f cdv A outer s H E) ⟨P, w, K, mg, base, A.deeper (envOfC qual sc s.heap.objs.size f cdv)⟩ N sc :=
  ⟨rfl, rfl, rfl, rfl, rfl, rfl, rfl, rfl, rfl, S.nd, passes_of rfl⟩
/-- what is promised without touching an object that was there -/
theorem Ext.none {F H F' H' : Hp} {m m' : Mm} (s : Sta F H m) (e : Ext [] F H F' H' m') : Ex m F H F' H' := by
  refine ⟨e.ff, fun a o h _ => e.hh a o h (by simp), fun a h _ => e.new a h (by simp), fun _ h => .inl h, e.st.sub, fun p c hp => ?_, s.nd⟩
  obtain ⟨h1, o, h2, h3⟩ := s.cell p c hp
  exact ⟨by rw [e.new p (by rw [h2]; exact fun z => (nomatch z)) (by simp)]; exact h1, o, e.hh p o h2 (by simp), h3.mono e.ff⟩
theorem fn_D (F : Fun K x qual st f fd) (S : FnScope N ps (defScope st)) (len : ∀ F ds r, pre F ds r → ds.length = ps.length) (ne : ∀ F ds C, ¬ pre F ds (.err C))
    (body : ∀ (X : Cx) (A : Around), Bd X ⟨P, w, K, mg, base, A⟩ N (defScope st) → Bf X → Room k A → ∀ (F : Hp) (ds : List Dt) (d : Dt), pre F ds (.ok d) → SD X F (defBody st) (startD N ds []) (EndD (.ok d))) : FnOk P w K mg base CX0 (k + 1) f fd ps (spR pre) := by
  refine F.ok S (fun vs H Q E h => ?_) (fun cdv A outer s H vs Q E hr h => ?_)
  · obtain ⟨F, ds, r, m, _, ra, hp, _⟩ := h
    rw [ra.length, len F ds r hp]
  · obtain ⟨F, ds, r, m, sF, ra, hp, q⟩ := h
    cases r with
    | err C => exact absurd hp (ne F ds C)
    | ok d =>
      refine ⟨_, pss, body _ _ (bd0 S) ⟨fun _ => rfl, rfl, rfl⟩ hr F ds d hp F H (L2.start N vs) _ (fun _ _ _ _ => False) (Same.refl F) takesN0 (start_ctx (sF.wk SubP.nil) ra (by rw [len F ds _ hp]; exact FnScope.len_le S)) fun o ho => ?_⟩
      cases o with
      | ret d' m' => cases ho; exact fun v F' H' e' r' => q v F' H' (Ext.none sF e') r'
      | nx δ => cases ho; exact fun F' H' σ' e' c' => q .non F' H' (Ext.none sF e') .non
      | err C m' => cases ho
      | brk δ => exact ho.elim
      | ct δ => exact ho.elim
theorem fn_X (F : Fun K x qual st f fd) (S : FnScope N ps (defScope st)) (len : ∀ F ds r, pre F ds r → ds.length = ps.length)
    (body : ∀ (X : Cx) (A : Around), Bd X ⟨P, w, K, mg, base, A⟩ N (defScope st) → Bf X → Room k A → ∀ (F : Hp) (ds : List Dt) (r : Res), pre F ds r → SD X F (defBody st) (startD N ds []) (EndD r)) : FnOk P w K mg base (L2N.CX P w) (k + 1) f fd ps (spR pre) := by
  refine fun_okN F S (fun vs H Q E h => ?_) (fun cdv A outer s H vs Q E hr h => ?_)
  · obtain ⟨F, ds, r, m, _, ra, hp, _⟩ := h
    rw [ra.length, len F ds r hp]
  · obtain ⟨F, ds, r, m, sF, ra, hp, q⟩ := h
    refine ⟨_, pss, body _ _ (bd1 S) ⟨fun _ => rfl, rfl, rfl⟩ hr F ds r hp F H (L2.start N vs) _ (fun cls d _ H => E cls d H) (Same.refl F) (L2N.takes_of rfl rfl rfl rfl) (start_ctx (sF.wk SubP.nil) ra (by rw [len F ds _ hp]; exact FnScope.len_le S)) fun o ho => ?_⟩
    cases o with
    | ret d' m' => cases ho; exact fun v F' H' e' r' => q v F' H' (Ext.none sF e') r'
    | nx δ => cases ho; exact fun F' H' σ' e' c' => q .non F' H' (Ext.none sF e') .non
    | err C m' => cases ho; exact fun F' H' σ' e' => q F' H' (Ext.none sF e')
    | brk δ => exact ho.elim
    | ct δ => exact ho.elim
/-- .. that may change objects -/
theorem fn_M {pre : Hp → List Dt → Mm → (Rem → Prop) → Prop} (F : Fun K x qual st f fd) (S : FnScope N ps (defScope st)) (len : ∀ F ds m R, pre F ds m R → ds.length = ps.length)
    (body : ∀ (X : Cx) (A : Around), Bd X ⟨P, w, K, mg, base, A⟩ N (defScope st) → Bf X → Room k A → ∀ (F : Hp) (ds : List Dt) (m : Mm) (R : Rem → Prop), pre F ds m R → SD X F (defBody st) (startD N ds m) (EndM R)) : FnOk P w K mg base (L2N.CX P w) (k + 1) f fd ps (spM pre) := by
  refine fun_okN F S (fun vs H Q E h => ?_) (fun cdv A outer s H vs Q E hr h => ?_)
  · obtain ⟨F, ds, m, R, _, ra, hp, _⟩ := h
    rw [ra.length, len F ds m R hp]
  · obtain ⟨F, ds, m, R, sF, ra, hp, q⟩ := h
    refine ⟨_, pss, body _ _ (bd1 S) ⟨fun _ => rfl, rfl, rfl⟩ hr F ds m R hp F H (L2.start N vs) _ (fun cls d _ H => E cls d H) (Same.refl F) (L2N.takes_of rfl rfl rfl rfl) (start_ctx sF ra (by rw [len F ds m R hp]; exact FnScope.len_le S)) fun o ho => ?_⟩
    cases o with
    | ret d' m' =>
      obtain ⟨m2, hs, hR⟩ := ho
      exact fun v F' H' e' r' => q _ hR v F' H' (e'.wk hs) r'
    | nx δ =>
      obtain ⟨m2, hs, hR⟩ := ho
      exact fun F' H' σ' e' c' => q _ hR .non F' H' (e'.wk hs) .non
    | err C m' =>
      obtain ⟨m2, hs, hR⟩ := ho
      exact fun F' H' σ' e' => q _ hR F' H' (e'.wk hs)
    | brk δ => exact ho.elim
    | ct δ => exact ho.elim
theorem Cal.mk' {cx : CXT} {sp : Sp} (F : Fun K x qual st f fd) (G : FnOk P w K mg base cx k f fd ps sp) (hm : mg x = some (.ref f)) (hb : Binds K fd ps []) : Cal P w K mg base cx k x sp := ⟨f, fd, ps, G, hm, F.kp, hb⟩
end
section
variable {X : Cx} {F : Hp} {δ δ1 : Sl} {e a b c tg iter : Expr} {es : List Expr} {d x y z : Dt} {ds : List Dt} {st body els rest : List Stmt} {O : Out → Prop} {pos p apos : Pos} {n : Str} {i j : Str} {Γ : Gm} {N : List Str} {sc : Scope}
/-! ### texts' methods -/
theorem d_lower (h : EvD X F e δ (.str i)) (hz : i.length ≤ 5592405) (hbase : attributeBase e "lower" X.env (eval e X.env) = eval e X.env := by rfl) (hline : (apos.endLine == pos.line) = true := by rfl) :
    EvD X F (.Call (.Attribute e "lower" apos) [] [] pos) δ (.str (Txt.lower i)) := fun F1 H σ Q s c k => we (pe_lower pe hbase hline) (h F1 H σ _ s c fun v F2 H2 e2 r2 => by
  cases r2
  exact ⟨⟨i, rfl⟩, i, rfl, rfl, hz, k _ F2 H2 e2 (.str _)⟩)
theorem d_upper (h : EvD X F e δ (.str i)) (hz : i.length ≤ 5592405) (hbase : attributeBase e "upper" X.env (eval e X.env) = eval e X.env := by rfl) (hline : (apos.endLine == pos.line) = true := by rfl) :
    EvD X F (.Call (.Attribute e "upper" apos) [] [] pos) δ (.str (Txt.upper i)) := fun F1 H σ Q s c k => we (pe_upper pe hbase hline) (h F1 H σ _ s c fun v F2 H2 e2 r2 => by
  cases r2
  exact ⟨⟨i, rfl⟩, i, rfl, rfl, hz, k _ F2 H2 e2 (.str _)⟩)
theorem d_join {ts : List Str} (h : EvD X F e δ (.str i)) (ha : EvD X F a δ (.lst (ts.map .str))) (hz : (ts.map fun t => t.length).sum + ts.length * i.length ≤ 16777216) (hs : starEach [a] X.env = [(false, eval a X.env)] := by rfl) (hbase : attributeBase e "join" X.env (eval e X.env) = eval e X.env := by rfl) (hline : (apos.endLine == pos.line) = true := by rfl) :
    EvD X F (.Call (.Attribute e "join" apos) [a] [] pos) δ (.str (Txt.join i ts)) := fun F1 H σ Q s c k => we (pe_join pe pe hs hbase hline) (h F1 H σ _ s c fun v F2 H2 e2 r2 => by
  cases r2
  refine ⟨⟨i, rfl⟩, ha F2 H2 σ _ (s.trans e2.ff) (c.ext e2) fun v F3 H3 e3 r3 => ?_⟩
  cases r3 with
  | lst hp ra =>
    have q := ra.strs ts
    subst q
    exact ⟨i, _, ts, rfl, rfl, .inl (SqL.of (e3.sub _ _ hp)), hz, k _ F3 H3 (e2.trans e3) (.str _)⟩)
theorem d_isB {p q : Bool} (ha : EvD X F a δ (.bl p)) (hb : EvD X F b δ (.bl q)) : EvD X F (.Compare a [.Is] [b] pos) δ (.bl (decide (p = q))) := d_cmp op_isBl ha hb fun m F1 H vx vy Q s s1 rx ry k => by
  cases rx; cases ry
  exact ⟨p, q, rfl, rfl, k _ F1 H (.refl s1) (.bl _)⟩
theorem d_notB {p q : Bool} (ha : EvD X F a δ (.bl p)) (hb : EvD X F b δ (.bl q)) : EvD X F (.Compare a [.IsNot] [b] pos) δ (.bl (!decide (p = q))) := d_cmp op_notBl ha hb fun m F1 H vx vy Q s s1 rx ry k => by
  cases rx; cases ry
  exact ⟨p, q, rfl, rfl, k _ F1 H (.refl s1) (.bl _)⟩
/-- a < b < c: chains -/
theorem d_chain {op op' : CmpOp} {r r' : R2} {pos : Pos} {k : Bool} (ho : OpR X (compareOp op) r) (ho' : OpR X (compareOp op') r') (ha : EvD X F a δ x) (hb : EvD X F b δ y) (hc : EvD X F c δ z) (hr : RD F r x y (.bl k)) (hr' : k = true → RD F r' y z d) (h0 : k = false → d = .bl false)
    (hm : lastMarks [op, op'] [b, c] = false := by rfl) : EvD X F (.Compare a [op, op'] [b, c] pos) δ d := fun F1 H σ Q s cc q =>
  we (pe_chain ho ho' pe pe pe hm) (ha F1 H σ _ s cc fun v F2 H2 e2 r2 => hb F2 H2 σ _ (s.trans e2.ff) (cc.ext e2) fun u F3 H3 e3 r3 =>
    hr δ.m F3 H3 v u _ ((s.trans e2.ff).trans e3.ff) e3.st (r2.mono e3.ff) r3 fun w F4 H4 e4 r4 => by
      cases r4
      refine ⟨k, rfl, ?_⟩
      by_cases hk : k = true
      · subst hk
        refine hc F4 H4 σ _ (((s.trans e2.ff).trans e3.ff).trans e4.ff) (((cc.ext e2).ext e3).ext e4) fun w F5 H5 e5 r5 => ?_
        exact hr' rfl δ.m F5 H5 u w Q ((((s.trans e2.ff).trans e3.ff).trans e4.ff).trans e5.ff) e5.st ((r3.mono e4.ff).mono e5.ff) r5 fun v F6 H6 e6 r6 => q v F6 H6 ((((e2.trans e3).trans e4).trans e5).trans e6) r6
      · have hk' : k = false := by simpa using hk
        subst hk'
        exact q _ F4 H4 ((e2.trans e3).trans e4) (by rw [h0 rfl]; exact .bl false))
theorem last_le {op op' : CmpOp} {b c : Expr} (h : op' ≠ .In := by decide) (h2 : op' ≠ .NotIn := by decide) : lastMarks [op, op'] [b, c] = false := nomark c h h2
theorem rd_leS : RD F (fun x y H Q => ∃ i j, x = .str i ∧ y = .str j ∧ Q (.bl (!decide (j.cps.toList < i.cps.toList))) H) (.str i) (.str j) (.bl (!decide (j.cps.toList < i.cps.toList))) := fun m F1 H vx vy Q s s1 rx ry k => by
  cases rx; cases ry
  exact ⟨i, j, rfl, rfl, k _ F1 H (.refl s1) (.bl _)⟩
theorem d_chain_leS (ha : EvD X F a δ (.str i)) (hb : EvD X F b δ (.str j)) {l : Str} (hc : EvD X F c δ (.str l)) : EvD X F (.Compare a [.LtE, .LtE] [b, c] pos) δ (.bl ((!decide (j.cps.toList < i.cps.toList)) && (!decide (l.cps.toList < j.cps.toList)))) := by
  refine d_chain op_le_str op_le_str ha hb hc rd_leS (fun hk => ?_) (fun hk => ?_) last_le
  · rw [hk]; exact rd_leS
  · rw [hk]; rfl
theorem d_chain_le {i j l : Int} (ha : EvD X F a δ (.int i)) (hb : EvD X F b δ (.int j)) (hc : EvD X F c δ (.int l)) : EvD X F (.Compare a [.LtE, .LtE] [b, c] pos) δ (.bl (decide (i ≤ j) && decide (j ≤ l))) := by
  refine d_chain op_le op_le ha hb hc (rd_I0 fun _ => .bl _) (fun hk => ?_) (fun hk => ?_) last_le
  · rw [hk]; exact rd_I0 fun _ => .bl _
  · rw [hk]; rfl
/-- a, b = x, y -/
theorem s_par [B : Bd X Γ N sc] (i j : Nat) {nx ny : Str} {px py pt pt2 : Pos} {kt k2} (ha : EaD X F [a, b] δ [x, y]) (hr : SD X F rest ((δ.set i (some x)).set j (some y)) O) (hi : N[i]? = some nx := by rfl) (hj : N[j]? = some ny := by rfl) (hij : i ≠ j := by decide)
    (hx : sc.names.lookup nx = some .local := by rfl) (hy : sc.names.lookup ny = some .local := by rfl)
    (hw : ∀ env : Env, env.scope = sc → swappedStores [.Tuple [.Name nx px, .Name ny py] kt pt] (.Tuple [a, b] k2 pt2) env = pure (some [nx, ny]) := by intro env h; cases env; cases h; rfl)
    (hs : swapsWithSole [.Tuple [.Name nx px, .Name ny py] kt pt] (.Tuple [a, b] k2 pt2) pos.line X.env = pure false := by rfl) :
    SD X F (.Assign [.Tuple [.Name nx px, .Name ny py] kt pt] (.Tuple [a, b] k2 pt2) pos :: rest) δ O := fun F1 H σ D W s t c p =>
  wss (pss_cons (ps_par B.calm (by rw [B.hN]; exact B.nd) (by rw [B.hN]; exact hi) (by rw [B.hN]; exact hj) hij (by rw [B.hsc]; exact hx) (by rw [B.hsc]; exact hy) pa (hw _ B.hsc) hs) pss) (ha F1 H σ _ s c fun vs F2 H2 e2 r2 => by
    cases r2 with
    | cons r1 r2 =>
      cases r2 with
      | cons r2 r3 =>
        cases r3
        exact ⟨_, _, rfl, hr F2 H2 _ D W (s.trans e2.ff) t (((c.ext e2).set i r1).set j r2) fun o ho => (p o ho).ext e2⟩)
end
end G

set_option Elab.async false
set_option linter.all false
set_option maxRecDepth 100000
set_option maxHeartbeats 4000000
namespace G
open PySem PySem.Spec PyProof.Rows L2
section
variable {X : Cx} {F : Hp} {δ δ1 : Sl} {e a b c tg iter : Expr} {es : List Expr} {d x y z : Dt} {ds : List Dt} {pos p apos : Pos}
/-! ### comparisons as tests -/
theorem t_cmp {op : CmpOp} {r : R2} {k : Bool} (ho : OpR X (compareOp op) r) (ha : EvD X F a δ x) (hb : EvD X F b δ y) (hr : RD F r x y (.bl k)) (hm : behindInMarks op b = false := by first | exact nomark _ | rfl) : EtD X F (.Compare a [op] [b] pos) δ k := fun F1 H σ Q s c q =>
  wt (pt_cmpR ho pe pe hm) (ha F1 H σ _ s c fun v F2 H2 e2 r2 => hb F2 H2 σ _ (s.trans e2.ff) (c.ext e2) fun u F3 H3 e3 r3 =>
    hr δ.m F3 H3 v u _ ((s.trans e2.ff).trans e3.ff) e3.st (r2.mono e3.ff) r3 fun w F4 H4 e4 r4 => by
      cases r4
      exact ⟨k, rfl, q F4 H4 ((e2.trans e3).trans e4)⟩)
section
variable {i j : Int}
theorem t_lt (ha : EvD X F a δ (.int i)) (hb : EvD X F b δ (.int j)) : EtD X F (.Compare a [.Lt] [b] pos) δ (decide (i < j)) := t_cmp op_lt ha hb (rd_I0 fun _ => .bl _)
theorem t_le (ha : EvD X F a δ (.int i)) (hb : EvD X F b δ (.int j)) : EtD X F (.Compare a [.LtE] [b] pos) δ (decide (i ≤ j)) := t_cmp op_le ha hb (rd_I0 fun _ => .bl _)
theorem t_gt (ha : EvD X F a δ (.int i)) (hb : EvD X F b δ (.int j)) : EtD X F (.Compare a [.Gt] [b] pos) δ (decide (j < i)) := t_cmp op_gt ha hb (rd_I0 fun _ => .bl _)
theorem t_ge (ha : EvD X F a δ (.int i)) (hb : EvD X F b δ (.int j)) : EtD X F (.Compare a [.GtE] [b] pos) δ (decide (j ≤ i)) := t_cmp op_ge ha hb (rd_I0 fun _ => .bl _)
end
theorem t_eq (ha : EvD X F a δ x) (hb : EvD X F b δ y) (h : scD x y = true := by rfl) : EtD X F (.Compare a [.Eq] [b] pos) δ (sameD x y) := t_cmp op_eq ha hb (rd_eq h)
theorem t_ne (ha : EvD X F a δ x) (hb : EvD X F b δ y) (h : scD x y = true := by rfl) : EtD X F (.Compare a [.NotEq] [b] pos) δ (!sameD x y) := t_cmp op_ne ha hb (rd_ne h)
theorem t_isN {j p} (ha : EvD X F a δ x) {k : Bool} (hk : ∀ F v, Rep F v x → decide (v = .non) = k) : EtD X F (.Compare a [.Is] [.Constant .none j p] pos) δ k := fun F1 H σ Q s c q =>
  wt (pt_cmp (pc_isN pe)) (ha F1 H σ _ s c fun v F2 H2 e2 r2 => ⟨k, by rw [hk F2 v r2], q F2 H2 e2⟩)
theorem t_notN {j p} (ha : EvD X F a δ x) {k : Bool} (hk : ∀ F v, Rep F v x → decide (v = .non) = k) : EtD X F (.Compare a [.IsNot] [.Constant .none j p] pos) δ (!k) := fun F1 H σ Q s c q =>
  wt (pt_cmp (pc_notN pe)) (ha F1 H σ _ s c fun v F2 H2 e2 r2 => ⟨!k, by rw [hk F2 v r2], q F2 H2 e2⟩)
/-- whether a datum is None -/
def isNon : Dt → Bool
  | .non => true
  | _ => false
theorem isNon_of : ∀ (x : Dt) F v, Rep F v x → decide (v = .non) = isNon x := fun x F v r => by
  cases r <;> rfl
theorem t_isN' {j p} (ha : EvD X F a δ x) : EtD X F (.Compare a [.Is] [.Constant .none j p] pos) δ (isNon x) := t_isN ha (isNon_of x)
theorem t_notN' {j p} (ha : EvD X F a δ x) : EtD X F (.Compare a [.IsNot] [.Constant .none j p] pos) δ (!isNon x) := t_notN ha (isNon_of x)
theorem d_isN' {j p} (ha : EvD X F a δ x) : EvD X F (.Compare a [.Is] [.Constant .none j p] pos) δ (.bl (isNon x)) := d_isN ha (isNon_of x)
theorem d_notN' {j p} (ha : EvD X F a δ x) : EvD X F (.Compare a [.IsNot] [.Constant .none j p] pos) δ (.bl (!isNon x)) := d_notN ha (isNon_of x)
section
variable {i j : Str}
theorem rd_ltS : RD F (fun x y H Q => ∃ i j, x = .str i ∧ y = .str j ∧ Q (.bl (decide (i.cps.toList < j.cps.toList))) H) (.str i) (.str j) (.bl (decide (i.cps.toList < j.cps.toList))) := fun m F1 H vx vy Q s s1 rx ry k => by
  cases rx; cases ry
  exact ⟨i, j, rfl, rfl, k _ F1 H (.refl s1) (.bl _)⟩
theorem t_leS (ha : EvD X F a δ (.str i)) (hb : EvD X F b δ (.str j)) : EtD X F (.Compare a [.LtE] [b] pos) δ (!decide (j.cps.toList < i.cps.toList)) := t_cmp op_le_str ha hb rd_leS
theorem t_ltS (ha : EvD X F a δ (.str i)) (hb : EvD X F b δ (.str j)) : EtD X F (.Compare a [.Lt] [b] pos) δ (decide (i.cps.toList < j.cps.toList)) := t_cmp op_lt_str ha hb rd_ltS
theorem rd_inS {c : Nat} : RD F (fun x y H Q => ∃ (c : Nat) (z : Str), x = .str ⟨#[c]⟩ ∧ y = .str z ∧ Q (.bl (decide (c ∈ z.cps.toList))) H) (.str ⟨#[c]⟩) (.str j) (.bl (decide (c ∈ j.cps.toList))) := fun m F1 H vx vy Q s s1 rx ry k => by
  cases rx; cases ry
  exact ⟨c, j, rfl, rfl, k _ F1 H (.refl s1) (.bl _)⟩
theorem t_inS {c : Nat} (ha : EvD X F a δ (.str ⟨#[c]⟩)) (hb : EvD X F b δ (.str j)) (hm : behindInMarks .In b = false := by rfl) : EtD X F (.Compare a [.In] [b] pos) δ (decide (c ∈ j.cps.toList)) := t_cmp op_in_sign ha hb rd_inS hm
end
theorem t_isB {p q : Bool} (ha : EvD X F a δ (.bl p)) (hb : EvD X F b δ (.bl q)) : EtD X F (.Compare a [.Is] [b] pos) δ (decide (p = q)) := t_cmp op_isBl ha hb fun m F1 H vx vy Q s s1 rx ry k => by
  cases rx; cases ry
  exact ⟨p, q, rfl, rfl, k _ F1 H (.refl s1) (.bl _)⟩
theorem t_notB {p q : Bool} (ha : EvD X F a δ (.bl p)) (hb : EvD X F b δ (.bl q)) : EtD X F (.Compare a [.IsNot] [b] pos) δ (!decide (p = q)) := t_cmp op_notBl ha hb fun m F1 H vx vy Q s s1 rx ry k => by
  cases rx; cases ry
  exact ⟨p, q, rfl, rfl, k _ F1 H (.refl s1) (.bl _)⟩
theorem t_chain {op op' : CmpOp} {r r' : R2} {k k' : Bool} (ho : OpR X (compareOp op) r) (ho' : OpR X (compareOp op') r') (ha : EvD X F a δ x) (hb : EvD X F b δ y) (hc : EvD X F c δ z) (hr : RD F r x y (.bl k)) (hr' : k = true → RD F r' y z (.bl k')) (h0 : k = false → k' = false)
    (hm : lastMarks [op, op'] [b, c] = false := by rfl) : EtD X F (.Compare a [op, op'] [b, c] pos) δ k' := fun F1 H σ Q s cc q =>
  wt (pt_chain ho ho' pe pe pe hm) (ha F1 H σ _ s cc fun v F2 H2 e2 r2 => hb F2 H2 σ _ (s.trans e2.ff) (cc.ext e2) fun u F3 H3 e3 r3 =>
    hr δ.m F3 H3 v u _ ((s.trans e2.ff).trans e3.ff) e3.st (r2.mono e3.ff) r3 fun w F4 H4 e4 r4 => by
      cases r4
      refine ⟨k, rfl, ?_⟩
      by_cases hk : k = true
      · subst hk
        refine hc F4 H4 σ _ (((s.trans e2.ff).trans e3.ff).trans e4.ff) (((cc.ext e2).ext e3).ext e4) fun w F5 H5 e5 r5 => ?_
        exact hr' rfl δ.m F5 H5 u w _ ((((s.trans e2.ff).trans e3.ff).trans e4.ff).trans e5.ff) e5.st ((r3.mono e4.ff).mono e5.ff) r5 fun v F6 H6 e6 r6 => by
          cases r6
          exact ⟨k', rfl, q F6 H6 ((((e2.trans e3).trans e4).trans e5).trans e6)⟩
      · have hk' : k = false := by simpa using hk
        subst hk'
        have := h0 rfl
        subst this
        exact ⟨false, rfl, q F4 H4 ((e2.trans e3).trans e4)⟩)
theorem t_chain_le {i j l : Int} (ha : EvD X F a δ (.int i)) (hb : EvD X F b δ (.int j)) (hc : EvD X F c δ (.int l)) : EtD X F (.Compare a [.LtE, .LtE] [b, c] pos) δ (decide (i ≤ j) && decide (j ≤ l)) := by
  refine t_chain op_le op_le ha hb hc (rd_I0 fun _ => .bl _) (fun hk => ?_) (fun hk => ?_) last_le
  · rw [hk]; exact rd_I0 fun _ => .bl _
  · rw [hk]; rfl
end
end G

set_option Elab.async false
set_option linter.all false
set_option maxRecDepth 100000
set_option maxHeartbeats 4000000
namespace G
open PySem PySem.Spec PyProof.Rows L2
/-! ### the head's facts -/
def dd (x : Str) (st : Stmt) : He.DefD := ⟨(x, none), x, x, defArgs st, defBody st, defScope st, [], []⟩
def dm (C m qual : Str) (st : Stmt) : He.DefD := ⟨(C, some m), m, qual, defArgs st, defBody st, defScope st, [], []⟩
theorem fun_of {K : PySem.W.Frag} {x qual : Str} {st : Stmt} {f : Addr} {fd : FuncData} (F : FunD K x qual (defArgs st) (defBody st) (defScope st) [] [] f fd) : Fun K x qual st f fd := by
  obtain ⟨oc, od, dV, kV, doc, pm, an, cdv, ct, osl, rfl, lk, hcd, hD, hK⟩ := F.ex
  rcases hD with ⟨_, rfl⟩ | ⟨e, _⟩
  · exact ⟨⟨oc, od, kV, doc, pm, an, cdv, ct, osl, rfl, lk, hcd⟩, F.kp⟩
  · exact absurd rfl e
/-- a law as a pure def -/
theorem law_ends {l : PySem.W.OpenLaw} {k : Nat} {q : Program} {loose : List Str} {XP : (Str → Option Value) → Heap → Prop} {YP : World → Heap → Prop} {d : DefRec} {x : Str} {pre : PySem.W.Frag → Hp → List Dt → Res → Prop}
    (hn : l.most = some 63) (hdf : d.params.defaults = []) (hr : Room k callerA)
    (hpre : ∀ (K : PySem.W.Frag) (F : Hp) (a : Addr) (ns : List Int), ns.length ≤ 63 → SqL K F a (ns.map V.int) → pre K F [.ref a] (.ok (.bl true)))
    (F : ∀ (w : World) (mg : Str → Option Value) (fa : Addr) (h : Heap), YP w h → h.Ns mainGlobals mg → mg d.name = some (.ref fa) →
      ∃ (K : PySem.W.Frag) (fd : FuncData), K.In h ∧ (∀ (s : Shared) (u : Value), BindsTo s fd ⟨[u], []⟩ [(x, u)]) ∧ ∀ base : Heap, K.In base → base.Ns mainGlobals mg → FnOk l.prog w K mg base CX0 k fa fd [x] (spR (pre K))) :
    PySem.W.WalkO q loose XP YP l.row.toRowW d [] (fun f vs => PySem.call f vs) := by
  refine L2.walk_ofE (l := l) (n := 63) (k := k) (x := x) (CX := CX0) hn (by decide) hdf hr (fun w mg fa h Y G hmg => ?_) (fun _ _ _ _ z => z)
  obtain ⟨K, fd, KX, hb, hF⟩ := F w mg fa h Y G hmg
  refine ⟨K, fd, spR (pre K), KX, hb, fun H a ns hl _ hS => ?_, hF⟩
  exact ⟨H, [.ref a], .ok (.bl true), [], ⟨Same.refl H, fun _ _ h => (nomatch h), List.nodup_nil⟩, .cons (.ref a) .nil, hpre K H a ns hl hS, fun v F' H' _ r => by cases r; rfl⟩
/-- a def of the top as the head's facts tell it -/
structure At (K : PySem.W.Frag) (mg : Str → Option Value) (x : Str) (st : Stmt) (ps : List Str) (f : Addr) (fd : FuncData) : Prop where
  fn : Fun K x x st f fd
  mg : mg x = some (.ref f)
  bi : Binds K fd ps []
theorem at_of {fa : List He.Fa} {fn : List He.DefD} {K : PySem.W.Frag} {h : Heap} {mg : Str → Option Value} (X : K.In h) (G : h.Ns mainGlobals mg) (c : He.SaysD fa fn K) (i j : Nat) {x : Str} {st : Stmt} {ps : List Str} (h1 : fn[i]? = some (dd x st)) (h2 : fa[j]? = some (.glo x))
    (hb : ∀ (kV doc pm : Value) (an : Option Addr) (cdv ct : Value) (us : List Value), us.length = ps.length → bindArgs (PySem.W.fnOf x x (defArgs st) (defBody st) (defScope st) .none kV doc pm an cdv ct) ⟨us, []⟩ = pure (ps.zip us)) :
    ∃ fd, At K mg x st ps (He.ga K x) fd := by
  obtain ⟨fd, F⟩ := c.def_ i h1
  have F' : Fun K x x st (He.ga K x) fd := fun_of F
  exact ⟨fd, F', He.glo_ok X G (c.fact j h2), F'.binds hb⟩
theorem At.cal {P : Program} {w : World} {K : PySem.W.Frag} {mg : Str → Option Value} {base : Heap} {x : Str} {st : Stmt} {ps : List Str} {f : Addr} {fd : FuncData} {cx : CXT} {k : Nat} {sp : Sp} (a : At K mg x st ps f fd) (g : FnOk P w K mg base cx k f fd ps sp) : Cal P w K mg base cx k x sp := Cal.mk' a.fn g a.mg a.bi
/-- one binding lemma for defs without defaults -/
theorem binds_of {K : PySem.W.Frag} {x qual : Str} {st : Stmt} {f : Addr} {fd : FuncData} {ps : List Str} (F : Fun K x qual st f fd)
    (h : ∀ (kV doc pm : Value) (an : Option Addr) (cdv ct : Value) (us : List Value), us.length = ps.length → bindArgs (PySem.W.fnOf x qual (defArgs st) (defBody st) (defScope st) .none kV doc pm an cdv ct) ⟨us, []⟩ = pure (ps.zip us)) : Binds K fd ps [] := F.binds h
end G

set_option Elab.async false
set_option linter.all false
set_option maxRecDepth 100000
set_option maxHeartbeats 4000000
namespace G
open PySem PySem.Spec PyProof.Rows L2
section
variable {X : Cx} {F : Hp} {δ δ1 : Sl} {e a b c tg iter elt : Expr} {es ifs : List Expr} {d x y z : Dt} {ds : List Dt} {pos p apos px : Pos} {n : Str} {scope : Scope} {i : Nat} {L : List (Addr × HO)} {Γ : Gm} {N : List Str} {sc : Scope}
/-! ### list comprehensions with a name for target -/
/-- what is so in every block of the comprehension -/
abbrev InB (Γ : Gm) (N : List Str) (sc scope : Scope) (P : Cx → Prop) : Prop := ∀ X' : Cx, Bd X' Γ N (relS scope sc) → P X'
def TWE (Γ : Gm) (N : List Str) (sc scope : Scope) (elt : Expr) : TE := fun σ H Q => InB Γ N sc scope fun X' => WE X' elt σ H Q
def TWT (Γ : Gm) (N : List Str) (sc scope : Scope) (c : Expr) : TT := fun σ H Q => InB Γ N sc scope fun X' => WT X' c σ H Q
theorem Bd.blk (B : Bd X Γ N sc) {s : Shared} {H : Hp} {C : Addr} {cl : List (Str × Addr)} {fp : List Addr} : Bd (X.blk s H scope (compEnvC scope cl C X.env) fp) Γ N (relS scope sc) where
  prog := B.prog
  w := B.w
  K := B.K
  mg := B.mg
  base := B.base
  A := B.A
  hN := B.hN
  hsc := by
    have e : (compEnvC scope cl C X.env).scope = relS scope X.env.scope := rfl
    show (compEnvC scope cl C X.env).scope = _
    rw [e, B.hsc]
  calm := B.calm
  nd := B.nd
  po := PassesOwn.never
theorem wipe1 {σ : L2.St} {i : Nat} {x : Option V} : wipe ((wipe σ [i]).set i x) [i] = wipe σ [i] := by
  show (((σ.set i none).set i x).set i none) = σ.set i none
  rw [List.set_set, List.set_set]
theorem Ctx.wipe {F H : Hp} {σ : L2.St} {δ : Sl} {i : Nat} (c : Ctx F H σ δ) (h : δ.s[i]? = some none) : Ctx F H (L2.wipe σ [i]) δ := ⟨c.st, fun j d q => by
  have hj : i ≠ j := fun e => by subst e; rw [h] at q; cases q
  obtain ⟨v, h1, h2⟩ := c.slot j d q
  exact ⟨v, by show (σ.set i none)[j]? = _; rw [List.getElem?_set_ne hj]; exact h1, h2⟩, by rw [wipe_length]; exact c.len⟩
structure LcI (m : Mm) (F2 H2 : Hp) (D : Addr) (out : List Dt) (H : Hp) : Prop where
  ex : ∃ F' acc, Ex m F2 H2 F' H ∧ F' D = none ∧ H D = some (.lst acc) ∧ RepA F' acc out
theorem LcI.done {m : Mm} {F2 H2 : Hp} {D : Addr} {out : List Dt} {H : Hp} (s : Sta F2 H2 m) (h : LcI m F2 H2 D out H) (hD : H2 D = none) : ∃ F', Ext m F2 H2 F' H ((D, .lst out) :: m) := by
  obtain ⟨F', acc, e, h5, h6, h7⟩ := h.ex
  have nD : D ∉ m.ads := s.ads_ne hD
  refine ⟨F', e.ff, e.hh, e.new, fun a ha => ?_, e.st.sub, fun p c hp => ?_, ?_⟩
  · rw [Mm.ads, List.map_cons, List.mem_cons] at ha
    rcases ha with rfl | ha
    · exact .inr hD
    · exact .inl ha
  · rcases List.mem_cons.mp hp with q | q
    · cases q
      exact ⟨h5, _, h6, .lst h7⟩
    · exact e.st.cell p c q
  · rw [Mm.ads, List.map_cons, List.nodup_cons]
    exact ⟨nD, e.st.nd⟩
theorem LcI.start {m : Mm} {F2 H2 : Hp} {D : Addr} (s : Sta F2 H2 m) (hD : H2 D = none) : LcI m F2 H2 D [] (upd H2 D (.lst [])) :=
  ⟨F2, [], Ext.mk0 s hD _, s.fr hD, upd_same, .nil⟩
theorem lc_main {α : Type} {l : List α} {g0 : α → Dt} {L : List (Addr × HO)} {tt : TT} (wv : TI) (hI : ∀ (F1 H : Hp) (σ : L2.St) (R : It → Hp → Prop), Same F F1 → Ctx F1 H σ δ → (∀ J F' H', Ex δ.m F1 H F' H' → Yields J F' L (l.map g0) → R J H') → wv σ H R) (h0 : δ.s[i]? = some none) (hz : l.length < sizeLine) (g : α → Bool) (f : α → Dt)
    (hL : ∀ p ∈ L, (p.1, Md.lck p.2) ∈ δ.m)
    (ht : ∀ d ∈ l, ∀ (F1 H : Hp) (σ : L2.St) (Q : Bool → Hp → Prop), Same F F1 → Ctx F1 H σ (δ.set i (some (g0 d))) → (∀ F' H', Ex δ.m F1 H F' H' → Q (g d) H') → tt σ H Q) (he : ∀ d ∈ l, g d = true → InB Γ N sc scope fun X' => EvD X' F elt (δ.set i (some (g0 d))) (f d))
    (F1 H : Hp) (σ : L2.St) (Q : VK) (s : Same F F1) (cc : Ctx F1 H σ δ) (k : ∀ D F' H', D ∉ δ.m.ads → Ext δ.m F1 H F' H' ((D, .lst ((l.filter g).map f)) :: δ.m) → Q (.ref D) H') : tLc wv (gName i) tt (TWE Γ N sc scope elt) [i] σ H Q := by
  refine hI F1 H σ _ s cc fun J F2 H2 e2 Y => ?_
  intro D hD
  refine ⟨fun j m H' => m = l.length - j ∧ j ≤ l.length ∧ LcI δ.m F2 H2 D (((l.take j).filter g).map f) H', ⟨l.length, by simp, Nat.zero_le _, by simpa using LcI.start e2.st hD⟩, ?_⟩
  rintro j m H' ⟨rfl, hj, LI⟩
  obtain ⟨F', acc, e1, h5, h6, h7⟩ := id LI.ex
  have lk : Lk L H' := fun q hq => by
    obtain ⟨_, o, z1, z2⟩ := e1.st.cell q.1 _ (hL q hq)
    cases z2
    exact z1
  have nD : D ∉ δ.m.ads := e2.st.ads_ne hD
  by_cases hlt : j < l.length
  · have hx : l[j]? = some l[j] := List.getElem?_eq_getElem hlt
    have tk : l.take (j + 1) = l.take j ++ [l[j]] := by rw [List.take_succ, hx]; rfl
    refine .inr ⟨Y.go j H' (e1.ff.trans e1.sub) lk (by rw [List.length_map]; exact hlt), fun H'' => LcI δ.m F2 H2 D (((l.take (j + 1)).filter g).map f) H'', fun H'' hh => ⟨l.length - (j + 1), by omega, rfl, hlt, hh⟩, fun x H'' hy => ?_⟩
    obtain ⟨F'', e'', r''⟩ := Y.yld j (g0 l[j]) δ.m F' H' x H'' (by rw [List.getElem?_map, hx]; rfl) e1.ff e1.st lk hy
    show L2.wipe ((L2.wipe σ [i]).set i (some x)) [i] = L2.wipe σ [i] ∧ _
    refine ⟨wipe1, ?_⟩
    have ci : Ctx F'' H'' ((L2.wipe σ [i]).set i (some x)) (δ.set i (some (g0 l[j]))) := by
      have c0 : Ctx F'' H'' σ δ := cc.ext ((e2.trans e1).trans e'')
      exact (c0.wipe h0).set i r''
    have sF : Same F F'' := ((s.trans e2.ff).trans e1.ff).trans e''.ff
    refine ht l[j] (List.getElem_mem hlt) F'' H'' _ _ sF ci fun F3 H3 e3 => ?_
    have e13 : Ex δ.m F' H' F3 H3 := e''.trans e3
    have hD' : H' D ≠ none := by rw [h6]; exact fun z => (nomatch z)
    by_cases hg : g l[j] = true
    · rw [hg]
      show TWE Γ N sc scope elt _ H3 _
      intro X' B'
      refine he l[j] (List.getElem_mem hlt) hg X' B' F3 H3 _ _ (sF.trans e3.ff) (ci.ext e3) fun y F4 H4 e4 r4 => ?_
      have e14 : Ex δ.m F' H' F4 H4 := e13.trans e4
      have e24 : Ex δ.m F2 H2 F4 H4 := e1.trans e14
      refine ⟨acc, e14.hh _ _ h6 nD, ?_, ?_⟩
      · have := h7.length
        have h8 : (((l.take j).filter g).map f).length ≤ j := by
          rw [List.length_map]
          exact Nat.le_trans (List.length_filter_le _ _) (by rw [List.length_take]; omega)
        omega
      · have fD : F4 D = none := by rw [e14.new D hD' nD]; exact h5
        refine ⟨F4, acc ++ [y], ⟨e24.ff, fun b o q n => ?_, e24.new, e24.own, ?_, fun p c hp => ?_, e24.st.nd⟩, fD, upd_same, ?_⟩
        · rw [upd_ne (ne_of_none q hD)]; exact e24.hh _ _ q n
        · intro b o q
          rw [upd_ne (ne_of_none q fD)]
          exact e24.sub _ _ q
        · obtain ⟨q1, o, q2, q3⟩ := e24.st.cell p c hp
          have n : p ≠ D := fun e => nD (e ▸ List.mem_map.mpr ⟨_, hp, rfl⟩)
          exact ⟨q1, o, by rw [upd_ne n]; exact q2, q3⟩
        · rw [tk, List.filter_append, List.map_append]
          refine (h7.mono e14.ff).append ?_
          rw [List.filter_cons_of_pos hg]
          exact .cons r4 .nil
    · have hg' : g l[j] = false := by simpa using hg
      rw [hg']
      show LcI δ.m F2 H2 D _ H3
      refine ⟨F3, acc, e1.trans e13, by rw [e13.new D hD' nD]; exact h5, e13.hh _ _ h6 nD, ?_⟩
      rw [tk, List.filter_append, List.map_append, List.filter_cons_of_neg hg]
      simpa using h7.mono e13.ff
  · have ej : j = l.length := by omega
    subst ej
    refine .inl ⟨Y.stop _ H' (e1.ff.trans e1.sub) lk (by rw [List.length_map]; exact Nat.le_refl _), ?_⟩
    obtain ⟨F', e'⟩ := LI.done e2.st hD
    rw [List.take_length] at e'
    exact k D F' H' nD (e2.trans e')
theorem frz_k {m : Mm} {F1 H F' H' : Hp} {D : Addr} {out : List Dt} {Q : VK} (k : ∀ v F' H', Ex m F1 H F' H' → Rep F' v (.lst out) → Q v H') (e : Ext m F1 H F' H' ((D, .lst out) :: m)) : Q (.ref D) H' := by
  obtain ⟨_, o, h1, h2⟩ := e.st.cell D _ List.mem_cons_self
  cases h2 with
  | lst r =>
    have e1 := Ext.frz (j := 0) e.st rfl h1
    exact k _ _ H' (e.trans e1) (.lst upd_same (r.mono e1.ff))
theorem EvD.len (h : (∀ (F1 H : Hp) (σ : L2.St) (Q : VK), Same F F1 → Ctx F1 H σ δ → σ.length = X.N.length → (∀ v F' H', Ex δ.m F1 H F' H' → Rep F' v d → Q v H') → WE X e σ H Q)) : EvD X F e δ d := fun F1 H σ Q s c k => ⟨fun pins s0 I => (h F1 H σ Q s c I.len k).go pins s0 I⟩
theorem d_lc0 {α : Type} {l : List α} {g0 : α → Dt} [B : Bd X Γ N sc] (i : Nat) (f : α → Dt) (hI : IterD X F L (.Name n px) iter δ (l.map g0)) (h0 : δ.s[i]? = some none) (he : ∀ d ∈ l, InB Γ N sc scope fun X' => EvD X' F elt (δ.set i (some (g0 d))) (f d)) (hz : l.length < sizeLine) (hL : ∀ p ∈ L, (p.1, Md.lck p.2) ∈ δ.m := by exact fun _ h => nomatch h)
    (ok : blkC N sc scope [(n, i)] = true := by decide +kernel) (hi : N[i]? = some n := by rfl) (hx : (relS scope sc).names.lookup n = some .local := by decide +kernel)
    (hs : ∀ x, foldedSetIterable iter X.env x = pure x := by intro _; rfl) : EvD X F (.ListComp elt [⟨.Name n px, iter, [], 0⟩] scope pos) δ (.lst (l.map f)) := EvD.len fun F1 H σ Q s cc _ k =>
  we (pe_lc (own := [(n, i)]) (g := gName i) (tt := tYes) (te := TWE Γ N sc scope elt) B.calm (by rw [B.hN]; exact B.nd) pi (by rw [B.hN, B.hsc]; exact blkOk_by ok) (fun s H C cl fp => pg_name (X := X.blk s H scope (compEnvC scope cl C X.env) fp) (by show X.N.Nodup; rw [B.hN]; exact B.nd) (by show X.N[i]? = some n; rw [B.hN]; exact hi) (.inl (by rw [B.blk.hsc]; exact hx)) (.inr (by rw [B.blk.hsc]; exact hx))) (fun _ _ _ _ _ => pts_nil) (fun s H C cl fp => ⟨fun pins s' σ H' Q I h => (h _ B.blk).go pins s' I⟩) hs)
    (lc_main (scope := scope) (WI X (.Name n px) iter) (fun F1 H σ R s c k => hI F1 H σ R s c k) h0 hz (fun _ => true) f hL (fun d _ F1 H σ Q s c k => k F1 H (.refl c.st)) (fun d hd _ => he d hd) F1 H σ Q s cc (by rw [List.filter_eq_self.mpr (fun _ _ => rfl)]; exact fun D F' H' _ e => frz_k k e))
theorem d_lc1 {α : Type} {l : List α} {g0 : α → Dt} [B : Bd X Γ N sc] (i : Nat) (g : α → Bool) (f : α → Dt) (hI : IterD X F L (.Name n px) iter δ (l.map g0)) (h0 : δ.s[i]? = some none) (ht : ∀ d ∈ l, InB Γ N sc scope fun X' => EtD X' F c (δ.set i (some (g0 d))) (g d)) (he : ∀ d ∈ l, g d = true → InB Γ N sc scope fun X' => EvD X' F elt (δ.set i (some (g0 d))) (f d)) (hz : l.length < sizeLine) (hL : ∀ p ∈ L, (p.1, Md.lck p.2) ∈ δ.m := by exact fun _ h => nomatch h)
    (ok : blkC N sc scope [(n, i)] = true := by decide +kernel) (hi : N[i]? = some n := by rfl) (hx : (relS scope sc).names.lookup n = some .local := by decide +kernel)
    (hs : ∀ x, foldedSetIterable iter X.env x = pure x := by intro _; rfl) : EvD X F (.ListComp elt [⟨.Name n px, iter, [c], 0⟩] scope pos) δ (.lst ((l.filter g).map f)) := EvD.len fun F1 H σ Q s cc _ k =>
  we (pe_lc (own := [(n, i)]) (g := gName i) (tt := TWT Γ N sc scope c) (te := TWE Γ N sc scope elt) B.calm (by rw [B.hN]; exact B.nd) pi (by rw [B.hN, B.hsc]; exact blkOk_by ok) (fun s H C cl fp => pg_name (X := X.blk s H scope (compEnvC scope cl C X.env) fp) (by show X.N.Nodup; rw [B.hN]; exact B.nd) (by show X.N[i]? = some n; rw [B.hN]; exact hi) (.inl (by rw [B.blk.hsc]; exact hx)) (.inr (by rw [B.blk.hsc]; exact hx))) (fun s H C cl fp => pts_one ⟨fun pins s' σ H' Q I h => (h _ B.blk).go pins s' I⟩) (fun s H C cl fp => ⟨fun pins s' σ H' Q I h => (h _ B.blk).go pins s' I⟩) hs)
    (lc_main (scope := scope) (WI X (.Name n px) iter) (fun F1 H σ R s c k => hI F1 H σ R s c k) h0 hz g f hL (fun d hd F1 H σ Q s c k X' B' => ht d hd X' B' F1 H σ Q s c k) he F1 H σ Q s cc fun D F' H' _ e => frz_k k e)
/-- .. as a new list, to be changed -/
def NewL (m : Mm) (ds : List Dt) : Rem → Prop := fun r => ∃ q, q ∉ m.ads ∧ r = .ok (.ref q) ((q, .lst ds) :: m)
theorem m_lc0 {α : Type} {l : List α} {g0 : α → Dt} [B : Bd X Γ N sc] (i : Nat) (f : α → Dt) (hI : IterD X F L (.Name n px) iter δ (l.map g0)) (h0 : δ.s[i]? = some none) (he : ∀ d ∈ l, InB Γ N sc scope fun X' => EvD X' F elt (δ.set i (some (g0 d))) (f d)) (hz : l.length < sizeLine) (hL : ∀ p ∈ L, (p.1, Md.lck p.2) ∈ δ.m := by exact fun _ h => nomatch h)
    (ok : blkC N sc scope [(n, i)] = true := by decide +kernel) (hi : N[i]? = some n := by rfl) (hx : (relS scope sc).names.lookup n = some .local := by decide +kernel)
    (hs : ∀ x, foldedSetIterable iter X.env x = pure x := by intro _; rfl) : EmD X F (.ListComp elt [⟨.Name n px, iter, [], 0⟩] scope pos) δ (NewL δ.m (l.map f)) := fun F1 H σ Q W s t cc k =>
  we (pe_lc (own := [(n, i)]) (g := gName i) (tt := tYes) (te := TWE Γ N sc scope elt) B.calm (by rw [B.hN]; exact B.nd) pi (by rw [B.hN, B.hsc]; exact blkOk_by ok) (fun s H C cl fp => pg_name (X := X.blk s H scope (compEnvC scope cl C X.env) fp) (by show X.N.Nodup; rw [B.hN]; exact B.nd) (by show X.N[i]? = some n; rw [B.hN]; exact hi) (.inl (by rw [B.blk.hsc]; exact hx)) (.inr (by rw [B.blk.hsc]; exact hx))) (fun _ _ _ _ _ => pts_nil) (fun s H C cl fp => ⟨fun pins s' σ H' Q I h => (h _ B.blk).go pins s' I⟩) hs)
    (lc_main (scope := scope) (WI X (.Name n px) iter) (fun F1 H σ R s c k => hI F1 H σ R s c k) h0 hz (fun _ => true) f hL (fun d _ F1 H σ Q s c k => k F1 H (.refl c.st)) (fun d hd _ => he d hd) F1 H σ Q s cc (by rw [List.filter_eq_self.mpr (fun _ _ => rfl)]; exact fun D F' H' n e => k _ ⟨D, n, rfl⟩ _ F' H' e (.ref D)))
theorem m_lc1 {α : Type} {l : List α} {g0 : α → Dt} [B : Bd X Γ N sc] (i : Nat) (g : α → Bool) (f : α → Dt) (hI : IterD X F L (.Name n px) iter δ (l.map g0)) (h0 : δ.s[i]? = some none) (ht : ∀ d ∈ l, InB Γ N sc scope fun X' => EtD X' F c (δ.set i (some (g0 d))) (g d)) (he : ∀ d ∈ l, g d = true → InB Γ N sc scope fun X' => EvD X' F elt (δ.set i (some (g0 d))) (f d)) (hz : l.length < sizeLine) (hL : ∀ p ∈ L, (p.1, Md.lck p.2) ∈ δ.m := by exact fun _ h => nomatch h)
    (ok : blkC N sc scope [(n, i)] = true := by decide +kernel) (hi : N[i]? = some n := by rfl) (hx : (relS scope sc).names.lookup n = some .local := by decide +kernel)
    (hs : ∀ x, foldedSetIterable iter X.env x = pure x := by intro _; rfl) : EmD X F (.ListComp elt [⟨.Name n px, iter, [c], 0⟩] scope pos) δ (NewL δ.m ((l.filter g).map f)) := fun F1 H σ Q W s t cc k =>
  we (pe_lc (own := [(n, i)]) (g := gName i) (tt := TWT Γ N sc scope c) (te := TWE Γ N sc scope elt) B.calm (by rw [B.hN]; exact B.nd) pi (by rw [B.hN, B.hsc]; exact blkOk_by ok) (fun s H C cl fp => pg_name (X := X.blk s H scope (compEnvC scope cl C X.env) fp) (by show X.N.Nodup; rw [B.hN]; exact B.nd) (by show X.N[i]? = some n; rw [B.hN]; exact hi) (.inl (by rw [B.blk.hsc]; exact hx)) (.inr (by rw [B.blk.hsc]; exact hx))) (fun s H C cl fp => pts_one ⟨fun pins s' σ H' Q I h => (h _ B.blk).go pins s' I⟩) (fun s H C cl fp => ⟨fun pins s' σ H' Q I h => (h _ B.blk).go pins s' I⟩) hs)
    (lc_main (scope := scope) (WI X (.Name n px) iter) (fun F1 H σ R s c k => hI F1 H σ R s c k) h0 hz g f hL (fun d hd F1 H σ Q s c k X' B' => ht d hd X' B' F1 H σ Q s c k) he F1 H σ Q s cc fun D F' H' n e => k _ ⟨D, n, rfl⟩ _ F' H' e (.ref D))
theorem d_lcD [B : Bd X Γ N sc] (i : Nat) (f : Dt → Dt) (hI : IterD X F L (.Name n px) iter δ ds) (h0 : δ.s[i]? = some none) (he : ∀ d ∈ ds, InB Γ N sc scope fun X' => EvD X' F elt (δ.set i (some d)) (f d)) (hz : ds.length < sizeLine) (hL : ∀ p ∈ L, (p.1, Md.lck p.2) ∈ δ.m := by exact fun _ h => nomatch h)
    (ok : blkC N sc scope [(n, i)] = true := by decide +kernel) (hi : N[i]? = some n := by rfl) (hx : (relS scope sc).names.lookup n = some .local := by decide +kernel)
    (hs : ∀ x, foldedSetIterable iter X.env x = pure x := by intro _; rfl) : EvD X F (.ListComp elt [⟨.Name n px, iter, [], 0⟩] scope pos) δ (.lst (ds.map f)) :=
  d_lc0 (l := ds) (g0 := id) i f (by rw [List.map_id]; exact hI) h0 he hz hL ok hi hx hs
/-! ### calls over lists -/
theorem rc_one {r : List V → Hp → VK → Prop} (h : ∀ (m : Mm) (F1 H : Hp) (v : V) (Q : VK), Same F F1 → Sta F1 H m → Rep F1 v x → (∀ v F' H', Ex m F1 H F' H' → Rep F' v z → Q v H') → r [v] H Q) : RC F r [x] z := fun m F1 H vs Q s s1 r k => by
  cases r with
  | cons r1 r2 =>
    cases r2
    exact h m F1 H _ Q s s1 r1 k
theorem d_all [B : Bd X Γ N sc] {bs : List Bool} (hm : Γ.mg "all" = none) (h : EvD X F e δ (.lst (bs.map .bl))) (hg : glB sc "all" = true := by decide +kernel) (he : starEach [e] X.env = (false, eval e X.env) :: starEach [] X.env := by first | exact plSt | rfl) :
    EvD X F (.Call (.Name "all" p) [e] [] pos) δ (.bl (bs.all id)) := d_bf (cr_all B.calm) hm (by decide +kernel) (a_one h he) (rc_one fun m F1 H v Q s s1 r q => by
  cases r with
  | lst hp ra =>
    have := ra.bls bs
    subst this
    exact ⟨_, bs, rfl, SqL.of (s1.sub _ _ hp), q _ F1 H (.refl s1) (.bl _)⟩) hg he pl0
theorem d_any [B : Bd X Γ N sc] {bs : List Bool} (hm : Γ.mg "any" = none) (h : EvD X F e δ (.lst (bs.map .bl))) (hg : glB sc "any" = true := by decide +kernel) (he : starEach [e] X.env = (false, eval e X.env) :: starEach [] X.env := by first | exact plSt | rfl) :
    EvD X F (.Call (.Name "any" p) [e] [] pos) δ (.bl (bs.any id)) := d_bf (cr_any B.calm) hm (by decide +kernel) (a_one h he) (rc_one fun m F1 H v Q s s1 r q => by
  cases r with
  | lst hp ra =>
    have := ra.bls bs
    subst this
    exact ⟨_, bs, rfl, SqL.of (s1.sub _ _ hp), q _ F1 H (.refl s1) (.bl _)⟩) hg he pl0
/-- list(x), x a tuple or a list -/
theorem d_listT [B : Bd X Γ N sc] (hm : Γ.mg "list" = none) (h : EvD X F e δ (.tup ds)) (hg : glB sc "list" = true := by decide +kernel) (he : starEach [e] X.env = (false, eval e X.env) :: starEach [] X.env := by first | exact plSt | rfl) :
    EvD X F (.Call (.Name "list" p) [e] [] pos) δ (.lst ds) := d_bt call_list_of hm (by decide +kernel) (a_one h he) (rc_one fun m F1 H v Q s s1 r q => by
  cases r with
  | tup hp ra => exact ⟨_, _, rfl, .inr (SqT.of (s1.sub _ _ hp)), fun l hl => q _ _ _ (.mk1 s1 hl _) (.lst upd_same (ra.mono (Ext.mk1 s1 hl _).ff))⟩) hg he pl0
theorem d_listL [B : Bd X Γ N sc] (hm : Γ.mg "list" = none) (h : EvD X F e δ (.lst ds)) (hg : glB sc "list" = true := by decide +kernel) (he : starEach [e] X.env = (false, eval e X.env) :: starEach [] X.env := by first | exact plSt | rfl) :
    EvD X F (.Call (.Name "list" p) [e] [] pos) δ (.lst ds) := d_bt call_list_of hm (by decide +kernel) (a_one h he) (rc_one fun m F1 H v Q s s1 r q => by
  cases r with
  | lst hp ra => exact ⟨_, _, rfl, .inl (SqL.of (s1.sub _ _ hp)), fun l hl => q _ _ _ (.mk1 s1 hl _) (.lst upd_same (ra.mono (Ext.mk1 s1 hl _).ff))⟩) hg he pl0
theorem d_cat {es : List Dt} (ha : EvD X F a δ (.lst ds)) (hb : EvD X F b δ (.lst es)) (hz : ds.length + es.length ≤ sizeLine) : EvD X F (.BinOp a .Add b pos) δ (.lst (ds ++ es)) := d_op op_cat ha hb fun m F1 H vx vy Q s s1 rx ry k => by
  cases rx with
  | lst hx rax =>
    cases ry with
    | lst hy ray => exact ⟨_, _, _, _, rfl, rfl, s1.sub _ _ hx, s1.sub _ _ hy, by rw [rax.length, ray.length]; exact hz, fun l hl => k _ _ _ (.mk1 s1 hl _) (.lst upd_same ((rax.append ray).mono (Ext.mk1 s1 hl _).ff))⟩
/-! ### isinstance against a built-in class -/
def tyD : Dt → String
  | .non => "NoneType" | .bl _ => "bool" | .int _ => "int" | .str _ => "str" | .ref _ => "" | .ty _ => "" | .lst _ => "list" | .tup _ => "tuple"
def pl1 : Dt → Bool
  | .ref _ => false | .ty _ => false | _ => true
theorem tyx_of {K : PySem.W.Frag} {F H : Hp} {v : V} (s : Same F H) (r : Rep F v x) (h : pl1 x = true) : TyX K H v (.type (tyD x)) := by
  cases r with
  | non => exact .base .non
  | bl b => exact .base (.bl b)
  | int i => exact .base (.int i)
  | str t => exact .base (.str t)
  | ref a => cases h
  | ty n => cases h
  | lst hp _ => exact .base (.lst (s _ _ hp))
  | tup hp _ => exact .base (.tup (s _ _ hp))
theorem d_bty [B : Bd X Γ N sc] {T : String} (hm : Γ.mg n = none) (hv : bootBuiltins n = some (.type T) := by decide +kernel) (hg : glB sc n = true := by decide +kernel) : EvD X F (.Name n pos) δ (.ty T) :=
  fun F1 H σ Q _ c k => we (pe_bltn (v := .ty T) (B.gl hg).1 (by rw [B.mg]; exact hm) hv rfl (B.gl hg).2.2 (B.gl hg).2.1) (k _ F1 H (.refl c.st) (.ty T))
theorem d_isi [B : Bd X Γ N sc] {T : String} {k : Bool} (hm : Γ.mg "isinstance" = none) (ha : EvD X F a δ x) (hb : EvD X F b δ (.ty T)) (hp : pl1 x = true) (hk : kitB (tyD x) T = some k) (hg : glB sc "isinstance" = true := by decide +kernel)
    (he : starEach [a, b] X.env = (false, eval a X.env) :: starEach [b] X.env := by first | exact plSt | rfl) (he2 : starEach [b] X.env = (false, eval b X.env) :: starEach [] X.env := by first | exact plSt | rfl) (hpl : (backTo pos (starEach [b] X.env)).any (·.1) = false := by rfl) :
    EvD X F (.Call (.Name "isinstance" p) [a, b] [] pos) δ (.bl k) := d_bf call_isi hm (by decide +kernel) (a_cons ha (a_one hb he2) he) (fun m F1 H vs Q s s1 r q => by
  cases r with
  | cons r1 r2 =>
    cases r2 with
    | cons r2 r3 =>
      cases r3
      cases r2
      exact ⟨_, _, _, _, k, rfl, .ty T, tyx_of s1.sub r1 hp, kit_ty hk, q _ F1 H (.refl s1) (.bl k)⟩) hg he hpl
end
end G

set_option Elab.async false
set_option linter.all false
set_option maxRecDepth 100000
set_option maxHeartbeats 4000000
namespace G
open PySem PySem.Spec PyProof.Rows L2
/-! ### the script, a list that was handed in -/
section
variable {X : Cx} {F : Hp} {δ : Sl} {e a b : Expr} {pos p : Pos} {Γ : Gm} {N : List Str} {sc : Scope}
theorem same_sq {K : PySem.W.Frag} {F H : Hp} {a : Addr} {xs : List V} (s : Same F H) (h : SqL K F a xs) : SqL K H a xs := s.seq h
theorem d_lenQ [B : Bd X Γ N sc] {l : Addr} {xs : List V} (hm : Γ.mg "len" = none) (h : EvD X F e δ (.ref l)) (hq : SqL Γ.K F l xs) (hg : glB sc "len" = true := by decide +kernel) (he : starEach [e] X.env = (false, eval e X.env) :: starEach [] X.env := by first | exact plSt | rfl) :
    EvD X F (.Call (.Name "len" p) [e] [] pos) δ (.int (xs.length : Nat)) := d_bf call_len_seq hm PySem.boot_len (a_one h he) (fun m F1 H vs Q s s1 r q => by
  cases r with
  | cons r1 r2 =>
    cases r2
    cases r1
    exact ⟨_, _, rfl, .inl (by rw [B.K]; exact same_sq (s.trans s1.sub) hq), q _ F1 H (.refl s1) (.int _)⟩) hg he pl0
theorem d_ixQ [B : Bd X Γ N sc] {l : Addr} {xs : List V} {k : Int} {i : Int} (ha : EvD X F a δ (.ref l)) (hb : EvD X F b δ (.int k)) (hq : SqL Γ.K F l xs) (h : atI xs k = some (.int i)) (hs : PlainIx b := by exact fun _ _ => rfl) : EvD X F (.Subscript a b pos) δ (.int i) := d_ixR ix_list ha hb (fun m F1 H vx vy Q s s1 rx ry q => by
  cases rx; cases ry
  exact ⟨_, _, k, _, rfl, rfl, by rw [B.K]; exact same_sq (s.trans s1.sub) hq, h, q _ F1 H (.refl s1) (.int _)⟩) hs
end
/-! ### cells, signs -/
def cell (ns : List Int) (k : Int) : Int := ns.getD k.toNat 0
def codes : List Nat := (List.range 5).map (32 + ·) ++ (List.range 89).map (38 + ·) ++ [10, 9]
def sgn (n : Int) : Nat := codes.getD (n % 96).toNat 0
theorem sgn_at {L : List Nat} (h : L = codes) (n : Int) : atI L (n % 96) = some (sgn n) := by
  subst h
  have h1 := Int.emod_nonneg n (show (96 : Int) ≠ 0 by decide)
  have h2 := Int.emod_lt_of_pos n (show (0 : Int) < 96 by decide)
  have e : codes.length = 96 := by decide
  have hlt : (n % 96).toNat < codes.length := by omega
  obtain ⟨m, hm⟩ : ∃ m : Nat, n % 96 = m := ⟨(n % 96).toNat, by omega⟩
  unfold sgn
  rw [hm]
  have : (m : Int).toNat = m := rfl
  rw [this]
  have hlt' : m < codes.length := by omega
  rw [show codes.getD m 0 = codes[m] by rw [List.getD_eq_getElem?_getD, List.getElem?_eq_getElem hlt']; rfl]
  exact atI_nat (List.getElem?_eq_getElem hlt')
def sg (c : Nat) : Str := ⟨#[c]⟩
theorem sgn_mem (n : Int) : sgn n ∈ codes := by
  have h1 := Int.emod_nonneg n (show (96 : Int) ≠ 0 by decide)
  have h2 := Int.emod_lt_of_pos n (show (0 : Int) < 96 by decide)
  have e : codes.length = 96 := by decide
  have hlt : (n % 96).toNat < codes.length := by omega
  unfold sgn
  rw [List.getD_eq_getElem?_getD, List.getElem?_eq_getElem hlt]
  exact List.getElem_mem hlt
theorem cell_some {ns : List Int} {k : Int} (h0 : 0 ≤ k) (h : k < (ns.length : Int)) : atI (ns.map V.int) k = some (.int (cell ns k)) := by
  obtain ⟨m, rfl⟩ : ∃ m : Nat, k = m := ⟨k.toNat, by omega⟩
  have hm : m < ns.length := by omega
  refine atI_nat ?_
  rw [List.getElem?_map, List.getElem?_eq_getElem hm]
  unfold cell
  show some (V.int ns[m]) = some (V.int (ns.getD m 0))
  rw [List.getD_eq_getElem?_getD, List.getElem?_eq_getElem hm]
  rfl
theorem cell_none {ns : List Int} {k : Int} (h0 : 0 ≤ k) (h : ¬ k < (ns.length : Int)) : cell ns k = 0 := by
  unfold cell
  rw [List.getD_eq_getElem?_getD, List.getElem?_eq_none (by omega)]
  rfl
def signsS : Str := ⟨codes.toArray⟩
def lettersS : Str := ⟨((List.range 26).map (97 + ·)).toArray⟩
/-- what law is to answer -/
def pLawT (K : PySem.W.Frag) (F : Hp) (ds : List Dt) (r : Res) : Prop := ∃ (a : Addr) (ns : List Int), ds = [.ref a] ∧ r = .ok (.bl true) ∧ SqL K F a (ns.map V.int) ∧ ns.length ≤ 63
theorem sg_lt (a b : Nat) : (!decide ((sg b).cps.toList < (sg a).cps.toList)) = decide (a ≤ b) := by
  have : ([b] < [a]) ↔ b < a := by
    constructor
    · intro h
      cases h with
      | rel h => exact h
      | cons h => cases h
    · exact fun h => List.Lex.rel h
  show (!decide ([b] < [a])) = _
  by_cases h : b < a
  · rw [decide_eq_true (this.mpr h), decide_eq_false (by omega)]; rfl
  · rw [decide_eq_false (fun q => h (this.mp q)), decide_eq_true (by omega)]; rfl
theorem sg_inj {a b : Nat} (h : sg a = sg b) : a = b := by injection h with q; simpa using q
theorem sg_eq (a b : Nat) : sameD (.str (sg a)) (.str (sg b)) = decide (a = b) := by
  show decide (sg a = sg b) = decide (a = b)
  by_cases h : a = b
  · subst h; simp
  · have : sg a ≠ sg b := fun q => h (sg_inj q)
    rw [decide_eq_false h, decide_eq_false this]
/-! ### the head's facts for the printed texts -/
structure ExAt (K : PySem.W.Frag) (mg : Str → Option Value) (x : Str) : Prop where
  g : mg x = some (.ref (He.ga K x))
  ex : PySem.W.excIn K (He.ga K x) He.veBase "ValueError.__new__" = true
  kp : PySem.W.keepIn K (.ref (He.ga K x)) = true
  bs : PySem.W.subIn K (.ref (He.ga K x)) (.type "BaseException") = some true
  ty : PySem.W.typeIn K (.ref (He.ga K x)) = some (.type "type")
theorem ex_of {K : PySem.W.Frag} {h : Heap} {mg : Str → Option Value} (X : K.In h) (G : h.Ns mainGlobals mg) {x : Str} (c1 : (He.Fa.glo x).ok K = true) (c2 : (He.Fa.exc x).ok K = true) : ExAt K mg x :=
  let ⟨h1, h2, h3, h4⟩ := He.exc_ok c2
  ⟨He.glo_ok X G c1, h1, h2, h3, h4⟩
abbrev AtE (K : PySem.W.Frag) (mg : Str → Option Value) (x : Str) (st : Stmt) (ps : List Str) : Prop := ∃ f fd, At K mg x st ps f fd
theorem at_of' {fa : List He.Fa} {fn : List He.DefD} {K : PySem.W.Frag} {h : Heap} {mg : Str → Option Value} (X : K.In h) (G : h.Ns mainGlobals mg) (c : He.SaysD fa fn K) (i j : Nat) {x : Str} {st : Stmt} {ps : List Str} (h1 : fn[i]? = some (dd x st)) (h2 : fa[j]? = some (.glo x))
    (hb : ∀ (kV doc pm : Value) (an : Option Addr) (cdv ct : Value) (us : List Value), us.length = ps.length → bindArgs (PySem.W.fnOf x x (defArgs st) (defBody st) (defScope st) .none kV doc pm an cdv ct) ⟨us, []⟩ = pure (ps.zip us)) : AtE K mg x st ps := ⟨_, at_of X G c i j h1 h2 hb⟩
/-- a method -/
structure AtM1 (K : PySem.W.Frag) (C m qual : Str) (st : Stmt) (ps : List Str) (f : Addr) (fd : FuncData) : Prop where
  fn : Fun K m qual st f fd
  mt : Meth K (He.ga K C) m f
  bi : Binds K fd ps []
abbrev AtM (K : PySem.W.Frag) (C m qual : Str) (st : Stmt) (ps : List Str) : Prop := ∃ fd, AtM1 K C m qual st ps (He.ma K (He.ga K C) m) fd
theorem atm_of {fa : List He.Fa} {fn : List He.DefD} {K : PySem.W.Frag} {h : Heap} {mg : Str → Option Value} (X : K.In h) (G : h.Ns mainGlobals mg) (c : He.SaysD fa fn K) (i j : Nat) {C m qual : Str} {st : Stmt} {ps : List Str} (h1 : fn[i]? = some (dm C m qual st)) (h2 : fa[j]? = some (.meth C m))
    (hb : ∀ (kV doc pm : Value) (an : Option Addr) (cdv ct : Value) (us : List Value), us.length = ps.length → bindArgs (PySem.W.fnOf m qual (defArgs st) (defBody st) (defScope st) .none kV doc pm an cdv ct) ⟨us, []⟩ = pure (ps.zip us)) : AtM K C m qual st ps := by
  obtain ⟨fd, F⟩ := c.def_ i h1
  have F' : Fun K m qual st (He.ma K (He.ga K C) m) fd := fun_of F
  exact ⟨fd, F', He.meth_ok (c.fact j h2), F'.binds hb⟩
/-- a method's promise as callers take it -/
structure CalM (P : Program) (w : World) (K : PySem.W.Frag) (mg : Str → Option Value) (base : Heap) (cx : CXT) (k : Nat) (C m : Str) (sp : Sp) : Prop where
  ex : ∃ f fd ps, FnOk P w K mg base cx k f fd ps sp ∧ Meth K (He.ga K C) m f ∧ Binds K fd ps []
theorem AtM1.cal {P : Program} {w : World} {K : PySem.W.Frag} {mg : Str → Option Value} {base : Heap} {C m qual : Str} {st : Stmt} {ps : List Str} {f : Addr} {fd : FuncData} {cx : CXT} {k : Nat} {sp : Sp} (a : AtM1 K C m qual st ps f fd) (g : FnOk P w K mg base cx k f fd ps sp) : CalM P w K mg base cx k C m sp := ⟨f, fd, ps, g, a.mt, a.bi⟩
theorem CalM.up {P : Program} {w : World} {K : PySem.W.Frag} {mg : Str → Option Value} {base : Heap} {cx : CXT} {k k' : Nat} {C m : Str} {sp : Sp} (c : CalM P w K mg base cx k C m sp) (h : k ≤ k') : CalM P w K mg base cx k' C m sp := by
  obtain ⟨f, fd, ps, h1, h2, h3⟩ := c.ex
  exact ⟨f, fd, ps, h1.mono h, h2, h3⟩
end G

set_option Elab.async false
set_option linter.all false
set_option maxRecDepth 100000
set_option maxHeartbeats 4000000
namespace G
open PySem PySem.Spec PyProof.Rows L2
section
variable {X : Cx} {F : Hp} {δ δ1 : Sl} {e a b c tg iter ob : Expr} {es : List Expr} {d x y z : Dt} {ds : List Dt} {st body els rest : List Stmt} {O : Out → Prop} {pos p apos : Pos} {n : Str} {L : List (Addr × HO)} {Γ : Gm} {N : List Str} {sc : Scope} {j : Nat} {q : Addr}
/-! ### objects that change: reading -/
theorem Sta.at {m : Mm} {F1 H : Hp} (s : Sta F1 H m) {c : Md} (hj : m[j]? = some (q, c)) : ∃ o, H q = some o ∧ RepM F1 o c := (s.cell q c (mem_at hj)).2
theorem Sta.lst {m : Mm} {F1 H : Hp} (s : Sta F1 H m) (hj : m[j]? = some (q, .lst ds)) : ∃ xs, H q = some (.lst xs) ∧ RepA F1 xs ds := by
  obtain ⟨o, h1, h2⟩ := s.at hj
  cases h2 with
  | lst r => exact ⟨_, h1, r⟩
theorem Sta.dK {m : Mm} {F1 H : Hp} {kvs : List (Key × Dt)} (s : Sta F1 H m) (hj : m[j]? = some (q, .dK kvs)) : ∃ xs, H q = some (.dK xs) ∧ RepK F1 xs kvs := by
  obtain ⟨o, h1, h2⟩ := s.at hj
  cases h2 with
  | dK r => exact ⟨_, h1, r⟩
theorem Sta.dT {m : Mm} {F1 H : Hp} {kvs : List (List Key × Dt)} (s : Sta F1 H m) (hj : m[j]? = some (q, .dT kvs)) : ∃ xs, H q = some (.dT xs) ∧ RepK F1 xs kvs := by
  obtain ⟨o, h1, h2⟩ := s.at hj
  cases h2 with
  | dT r => exact ⟨_, h1, r⟩
theorem Sta.ins {m : Mm} {F1 H : Hp} {C : Addr} {fs : List (Str × Dt)} (s : Sta F1 H m) (hj : m[j]? = some (q, .ins C fs)) : ∃ dx xs, H q = some (.ins C dx xs) ∧ RepK F1 xs fs := by
  obtain ⟨o, h1, h2⟩ := s.at hj
  cases h2 with
  | ins r => exact ⟨_, _, h1, r⟩
/-- .. through what came of it -/
theorem Rep.ref_cases {F1 : Hp} {v : V} (r : Rep F1 v (.ref q)) : v = .ref q := by cases r; rfl
theorem d_lenC [B : Bd X Γ N sc] (j : Nat) (hm : Γ.mg "len" = none) (h : EvD X F e δ (.ref q)) (hj : δ.m[j]? = some (q, .lst ds)) (hg : glB sc "len" = true := by decide +kernel) (he : starEach [e] X.env = (false, eval e X.env) :: starEach [] X.env := by first | exact plSt | rfl) :
    EvD X F (.Call (.Name "len" p) [e] [] pos) δ (.int (ds.length : Nat)) := fun F1 H σ Q s c k =>
  we (pe_callB call_len_seq (B.gl hg).1 (by rw [B.mg]; exact hm) PySem.boot_len pa (B.gl hg).2.2 (B.gl hg).2.1 he pl0) (a_one h he F1 H σ _ s c fun vs F2 H2 e2 r2 => by
    cases r2 with
    | cons r1 r2 =>
      cases r2
      cases r1
      obtain ⟨xs, h1, h2⟩ := e2.st.lst hj
      exact ⟨_, _, rfl, .inl (SqL.of h1), by rw [h2.length]; exact k _ F2 H2 e2 (.int _)⟩)
theorem d_lenDK [B : Bd X Γ N sc] (j : Nat) {kvs : List (Key × Dt)} (hm : Γ.mg "len" = none) (h : EvD X F e δ (.ref q)) (hj : δ.m[j]? = some (q, .dK kvs)) (hg : glB sc "len" = true := by decide +kernel) (he : starEach [e] X.env = (false, eval e X.env) :: starEach [] X.env := by first | exact plSt | rfl) :
    EvD X F (.Call (.Name "len" p) [e] [] pos) δ (.int (kvs.length : Nat)) := fun F1 H σ Q s c k =>
  we (pe_callB call_lenD (B.gl hg).1 (by rw [B.mg]; exact hm) PySem.boot_len pa (B.gl hg).2.2 (B.gl hg).2.1 he pl0) (a_one h he F1 H σ _ s c fun vs F2 H2 e2 r2 => by
    cases r2 with
    | cons r1 r2 =>
      cases r2
      cases r1
      obtain ⟨xs, h1, h2⟩ := e2.st.dK hj
      exact ⟨_, _, rfl, h1, by rw [h2.length]; exact k _ F2 H2 e2 (.int _)⟩)
theorem atI_rep {xs : List V} {k : Int} {F1 : Hp} (r : RepA F1 xs ds) (h : atI ds k = some d) : ∃ v, atI xs k = some v ∧ Rep F1 v d := by
  obtain ⟨m, hm⟩ : ∃ m, ixN ds.length k = some m := by
    unfold atI at h
    cases e : ixN ds.length k with
    | none => rw [e] at h; cases h
    | some m => exact ⟨m, rfl⟩
  have h' : ds[m]? = some d := by unfold atI at h; rw [hm] at h; exact h
  obtain ⟨v, hv, rv⟩ := r.get h'
  exact ⟨v, by unfold atI; rw [r.length, hm]; exact hv, rv⟩
theorem d_ixC [B : Bd X Γ N sc] (j : Nat) {k : Int} (ha : EvD X F a δ (.ref q)) (hb : EvD X F b δ (.int k)) (hj : δ.m[j]? = some (q, .lst ds)) (h : atI ds k = some d) (hs : PlainIx b := by exact fun _ _ => rfl) : EvD X F (.Subscript a b pos) δ d := fun F1 H σ Q s c kk =>
  we (pe_ix ix_list pe pe hs) (ha F1 H σ _ s c fun v F2 H2 e2 r2 => hb F2 H2 σ _ (s.trans e2.ff) (c.ext e2) fun u F3 H3 e3 r3 => by
    cases r2
    cases r3
    obtain ⟨xs, h1, h2⟩ := e3.st.lst hj
    obtain ⟨v, hv, rv⟩ := atI_rep h2 h
    exact ⟨_, _, k, v, rfl, rfl, SqL.of h1, hv, kk _ F3 H3 (e2.trans e3) rv⟩)
/-- self.f -/
theorem d_fld [B : Bd X Γ N sc] (j : Nat) {C : Addr} {fs : List (Str × Dt)} {f : Str} (ha : EvD X F e δ (.ref q)) (hj : δ.m[j]? = some (q, .ins C fs)) (hf : fs.lookup f = some d) (hc : Cls Γ.K C) (hn : NoAttr Γ.K C f)
    (hb : attributeBase e f X.env (eval e X.env) = eval e X.env := by rfl) : EvD X F (.Attribute e f pos) δ d := fun F1 H σ Q s c k =>
  we (pe_fld pe hb) (ha F1 H σ _ s c fun v F2 H2 e2 r2 => by
    cases r2
    obtain ⟨dx, xs, h1, h2⟩ := e2.st.ins hj
    rcases h2.look f with ⟨_, z⟩ | ⟨v, d', z1, z2, z3⟩
    · rw [hf] at z; cases z
    · rw [hf] at z2; cases z2
      exact ⟨_, C, dx, xs, v, rfl, h1, by rw [B.K]; exact hc, by rw [B.K]; exact hn, z1, k v F2 H2 e2 z3⟩)
/-! ### dicts -/
inductive DkAt (F : Hp) (m : Mm) (q : Addr) (kvs : List (Key × Dt)) : Prop
  | at (j : Nat) (hj : m[j]? = some (q, .dK kvs))
  | lck (j : Nat) {o : Obj} {xs : List (Key × V)} (hj : m[j]? = some (q, .lck (.frz o (.dK xs)))) (hr : RepK F xs kvs)
theorem DkAt.rd {m : Mm} {F1 H : Hp} {kvs : List (Key × Dt)} (h : DkAt F m q kvs) (s : Sta F1 H m) (f : Same F F1) : ∃ xs, Rd H q (.dK xs) ∧ RepK F1 xs kvs := by
  cases h with
  | «at» j hj =>
    obtain ⟨xs, h1, h2⟩ := s.dK hj
    exact ⟨xs, .inl h1, h2⟩
  | lck j hj hr =>
    obtain ⟨o, h1, h2⟩ := s.at hj
    cases h2
    exact ⟨_, .inr ⟨_, h1⟩, hr.mono f⟩
theorem DkAt.know {m : Mm} {F1 : Hp} {kvs : List (Key × Dt)} (h : DkAt F m q kvs) (f : Same F F1) : DkAt F1 m q kvs := by
  cases h with
  | «at» j hj => exact .at j hj
  | lck j hj hr => exact .lck j hj (hr.mono f)
def kD : Key → Dt
  | .inl i => .int i
  | .inr s => .str s
theorem rep_key {F1 : Hp} {v : V} {k : Key} (r : Rep F1 v (kD k)) : v = kV k := by cases k <;> (cases r; rfl)
theorem rep_kD {F1 : Hp} {k : Key} : Rep F1 (kV k) (kD k) := by cases k <;> constructor
theorem room1 {k : Nat} {A : Around} (r : Room k A) : A.units + 1 < cLine := by have := r.un; omega
theorem d_inD [B : Bd X Γ N sc] {k : Nat} (kk : Key) {kvs : List (Key × Dt)} (hr : Room k Γ.A) (ha : EvD X F a δ (kD kk)) (hb : EvD X F b δ (.ref q)) (hd : DkAt F δ.m q kvs) (hm : behindInMarks .In b = false := by rfl) : EvD X F (.Compare a [.In] [b] pos) δ (.bl (valD kvs kk).isSome) := fun F1 H σ Q s c kq =>
  we (pe_cmp (pc_din (by rw [B.A]; exact room1 hr) pe pe) hm) (ha F1 H σ _ s c fun v F2 H2 e2 r2 => hb F2 H2 σ _ (s.trans e2.ff) (c.ext e2) fun u F3 H3 e3 r3 => by
    obtain ⟨xs, h1, h2⟩ := hd.rd e3.st ((s.trans e2.ff).trans e3.ff)
    cases r3
    have hv := rep_key r2
    refine ⟨q, valV xs kk, rfl, .inl ⟨xs, kk, h1, hv, rfl⟩, kq _ F3 H3 (e2.trans e3) ?_⟩
    rcases h2.val kk with ⟨z1, z2⟩ | ⟨v, d, z1, z2, _⟩ <;> (rw [z1, z2]; exact .bl _))
theorem d_notInD [B : Bd X Γ N sc] {k : Nat} (kk : Key) {kvs : List (Key × Dt)} (hr : Room k Γ.A) (ha : EvD X F a δ (kD kk)) (hb : EvD X F b δ (.ref q)) (hd : DkAt F δ.m q kvs) (hm : behindInMarks .NotIn b = false := by rfl) : EvD X F (.Compare a [.NotIn] [b] pos) δ (.bl (!(valD kvs kk).isSome)) := fun F1 H σ Q s c kq =>
  we (pe_cmp (pc_dnotin (by rw [B.A]; exact room1 hr) pe pe) hm) (ha F1 H σ _ s c fun v F2 H2 e2 r2 => hb F2 H2 σ _ (s.trans e2.ff) (c.ext e2) fun u F3 H3 e3 r3 => by
    obtain ⟨xs, h1, h2⟩ := hd.rd e3.st ((s.trans e2.ff).trans e3.ff)
    cases r3
    have hv := rep_key r2
    refine ⟨q, valV xs kk, rfl, .inl ⟨xs, kk, h1, hv, rfl⟩, kq _ F3 H3 (e2.trans e3) ?_⟩
    rcases h2.val kk with ⟨z1, z2⟩ | ⟨v, d, z1, z2, _⟩ <;> (rw [z1, z2]; exact .bl _))
theorem t_inD [B : Bd X Γ N sc] {k : Nat} (kk : Key) {kvs : List (Key × Dt)} (hr : Room k Γ.A) (ha : EvD X F a δ (kD kk)) (hb : EvD X F b δ (.ref q)) (hd : DkAt F δ.m q kvs) (hm : behindInMarks .In b = false := by rfl) : EtD X F (.Compare a [.In] [b] pos) δ (valD kvs kk).isSome := fun F1 H σ Q s c kq =>
  wt (pt_cmp (pc_din (by rw [B.A]; exact room1 hr) pe pe) hm) (ha F1 H σ _ s c fun v F2 H2 e2 r2 => hb F2 H2 σ _ (s.trans e2.ff) (c.ext e2) fun u F3 H3 e3 r3 => by
    obtain ⟨xs, h1, h2⟩ := hd.rd e3.st ((s.trans e2.ff).trans e3.ff)
    cases r3
    have hv := rep_key r2
    refine ⟨q, valV xs kk, rfl, .inl ⟨xs, kk, h1, hv, rfl⟩, _, rfl, ?_⟩
    have : (valV xs kk).isSome = (valD kvs kk).isSome := by rcases h2.val kk with ⟨z1, z2⟩ | ⟨v, d, z1, z2, _⟩ <;> rw [z1, z2] <;> rfl
    rw [this]
    exact kq F3 H3 (e2.trans e3))
theorem t_notInD [B : Bd X Γ N sc] {k : Nat} (kk : Key) {kvs : List (Key × Dt)} (hr : Room k Γ.A) (ha : EvD X F a δ (kD kk)) (hb : EvD X F b δ (.ref q)) (hd : DkAt F δ.m q kvs) (hm : behindInMarks .NotIn b = false := by rfl) : EtD X F (.Compare a [.NotIn] [b] pos) δ (!(valD kvs kk).isSome) := fun F1 H σ Q s c kq =>
  wt (pt_cmp (pc_dnotin (by rw [B.A]; exact room1 hr) pe pe) hm) (ha F1 H σ _ s c fun v F2 H2 e2 r2 => hb F2 H2 σ _ (s.trans e2.ff) (c.ext e2) fun u F3 H3 e3 r3 => by
    obtain ⟨xs, h1, h2⟩ := hd.rd e3.st ((s.trans e2.ff).trans e3.ff)
    cases r3
    have hv := rep_key r2
    refine ⟨q, valV xs kk, rfl, .inl ⟨xs, kk, h1, hv, rfl⟩, _, rfl, ?_⟩
    have : (valV xs kk).isSome = (valD kvs kk).isSome := by rcases h2.val kk with ⟨z1, z2⟩ | ⟨v, d, z1, z2, _⟩ <;> rw [z1, z2] <;> rfl
    rw [this]
    exact kq F3 H3 (e2.trans e3))
theorem d_getD [B : Bd X Γ N sc] {k : Nat} (kk : Key) {kvs : List (Key × Dt)} (hr : Room k Γ.A) (ha : EvD X F a δ (.ref q)) (hb : EvD X F b δ (kD kk)) (hd : DkAt F δ.m q kvs) (hv : valD kvs kk = some d) (hs : NoSl b := by exact fun _ _ => rfl) : EvD X F (.Subscript a b pos) δ d := fun F1 H σ Q s c kq =>
  we (pe_dget (by rw [B.A]; exact room1 hr) pe pe hs) (ha F1 H σ _ s c fun v F2 H2 e2 r2 => hb F2 H2 σ _ (s.trans e2.ff) (c.ext e2) fun u F3 H3 e3 r3 => by
    obtain ⟨xs, h1, h2⟩ := hd.rd e3.st ((s.trans e2.ff).trans e3.ff)
    cases r2
    have hu := rep_key r3
    rcases h2.val kk with ⟨z1, z2⟩ | ⟨v, d', z1, z2, z3⟩
    · rw [hv] at z2; cases z2
    · rw [hv] at z2; cases z2
      exact ⟨q, v, rfl, .inl ⟨xs, kk, h1, hu, z1.symm⟩, kq _ F3 H3 (e2.trans e3) z3⟩)
/-! ### changing -/
theorem m_append [B : Bd X Γ N sc] (j : Nat) (hj : δ.m[j]? = some (q, .lst ds)) (ho : EvD X F ob δ (.ref q)) (ha : EvD X F a δ d) (hz : ds.length < sizeLine)
    (hbase : attributeBase ob "append" X.env (eval ob X.env) = eval ob X.env := by rfl)
    (hfew : ((backTo pos (starEach [a] X.env)).all (fun x => !x.1) && (backToKw pos (keywordEach [] X.env)).all (fun x => x.1.isSome)
      && decide (([a] : List Expr).length + ([] : List Keyword).length + (if ([] : List Keyword).isEmpty then 0 else 1) < 30)) = true := by rfl)
    (hline : (apos.endLine == pos.line) = true := by rfl) (hs : starEach [a] X.env = (false, eval a X.env) :: starEach [] X.env := by first | exact plSt | rfl) :
    EmD X F (.Call (.Attribute ob "append" apos) [a] [] pos) δ (fun r => r = .ok .non (δ.m.set j (q, .lst (ds ++ [d])))) := fun F1 H σ Q W s t c k =>
  we (pe_bm PySem.F.plainAttrs_list PySem.F.slot_list_append PySem.F.type_list_append mt_append pe pa hbase hfew hline hs pl0) (ho F1 H σ _ s c fun v F2 H2 e2 r2 => by
    cases r2
    obtain ⟨xs, h1, _⟩ := e2.st.lst hj
    refine ⟨.inl ⟨rfl, _, SqL.of h1⟩, a_one ha hs F2 H2 σ _ (s.trans e2.ff) (c.ext e2) fun vs F3 H3 e3 r3 => ?_⟩
    cases r3 with
    | cons r3 r4 =>
      cases r4
      obtain ⟨xs, h1, h2⟩ := e3.st.lst hj
      exact ⟨q, xs, _, rfl, rfl, h1, by rw [h2.length]; exact hz, k _ rfl _ F3 _ ((e2.trans e3).trans (Ext.mut e3.st hj (.lst (h2.append (.cons r3 .nil))))) .non⟩)
theorem m_pop [B : Bd X Γ N sc] (j : Nat) (hj : δ.m[j]? = some (q, .lst (ds ++ [d]))) (ho : EvD X F ob δ (.ref q))
    (hbase : attributeBase ob "pop" X.env (eval ob X.env) = eval ob X.env := by rfl) (hline : (apos.endLine == pos.line) = true := by rfl) :
    EmD X F (.Call (.Attribute ob "pop" apos) [] [] pos) δ (fun r => r = .ok d (δ.m.set j (q, .lst ds))) := fun F1 H σ Q W s t c k =>
  we (pe_bm0 PySem.F.plainAttrs_list PySem.F.slot_list_pop PySem.F.type_list_pop mt_pop pe hbase hline) (ho F1 H σ _ s c fun v F2 H2 e2 r2 => by
    cases r2
    obtain ⟨xs, h1, h2⟩ := e2.st.lst hj
    have hl := h2.length
    rw [List.length_append, List.length_singleton] at hl
    obtain ⟨y, hy, ry⟩ := h2.get (i := ds.length) (d := d) (by simp)
    refine ⟨.inl ⟨rfl, _, SqL.of h1⟩, q, xs, y, rfl, rfl, h1, by rw [hl]; exact hy, k _ rfl _ F2 _ (e2.trans (Ext.mut e2.st hj (.lst ?_))) ry⟩
    have := h2.dropLast
    rwa [List.dropLast_concat] at this)
theorem m_clear [B : Bd X Γ N sc] (j : Nat) (hj : δ.m[j]? = some (q, .lst ds)) (ho : EvD X F ob δ (.ref q))
    (hbase : attributeBase ob "clear" X.env (eval ob X.env) = eval ob X.env := by rfl) (hline : (apos.endLine == pos.line) = true := by rfl) :
    EmD X F (.Call (.Attribute ob "clear" apos) [] [] pos) δ (fun r => r = .ok .non (δ.m.set j (q, .lst []))) := fun F1 H σ Q W s t c k =>
  we (pe_bm0 PySem.F.plainAttrs_list PySem.F.slot_list_clear PySem.F.type_list_clear mt_clear pe hbase hline) (ho F1 H σ _ s c fun v F2 H2 e2 r2 => by
    cases r2
    obtain ⟨xs, h1, h2⟩ := e2.st.lst hj
    exact ⟨.inl ⟨rfl, _, SqL.of h1⟩, q, xs, rfl, rfl, h1, k _ rfl _ F2 _ (e2.trans (Ext.mut e2.st hj (.lst .nil))) .non⟩)
/-- .. of what just came -/
theorem m_clearM [B : Bd X Γ N sc] {R : Rem → Prop} (ho : EmD X F ob δ R) (hR : ∀ d m', R (.ok d m') → ∃ (j : Nat) (q : Addr) (ds : List Dt), d = .ref q ∧ m'[j]? = some (q, Md.lst ds))
    (hbase : attributeBase ob "clear" X.env (eval ob X.env) = eval ob X.env := by rfl) (hline : (apos.endLine == pos.line) = true := by rfl) :
    EmD X F (.Call (.Attribute ob "clear" apos) [] [] pos) δ (fun r => (∃ (d : Dt) (m' : Mm) (j : Nat) (q : Addr) (ds : List Dt), R (.ok d m') ∧ d = .ref q ∧ m'[j]? = some (q, Md.lst ds) ∧ r = .ok .non (m'.set j (q, Md.lst []))) ∨ ∃ C m', R (.err C m') ∧ r = .err C m') := fun F1 H σ Q W s t c k =>
  we (pe_bm0 PySem.F.plainAttrs_list PySem.F.slot_list_clear PySem.F.type_list_clear mt_clear pe hbase hline) (ho F1 H σ _ W s t c fun r hr => by
    cases r with
    | ok d m' =>
      obtain ⟨j, q, ds, rfl, hj⟩ := hR d m' hr
      intro v F2 H2 e2 r2
      cases r2
      obtain ⟨xs, h1, h2⟩ := e2.st.lst hj
      exact ⟨.inl ⟨rfl, _, SqL.of h1⟩, q, xs, rfl, rfl, h1, k _ (.inl ⟨_, _, j, q, ds, hr, rfl, hj, rfl⟩) _ F2 _ (e2.trans (Ext.mut e2.st hj (.lst .nil))) .non⟩
    | err C m' => exact fun F2 H2 σ2 e2 => k _ (.inr ⟨C, m', hr, rfl⟩) F2 H2 σ2 e2)
theorem m_lst {pos : Pos} (h : EaD X F es δ ds) (hz : ds.length ≤ 1000 := by first | decide | (simp only [List.length_cons, List.length_nil]; omega)) : EmD X F (.List es pos) δ (NewL δ.m ds) := fun F1 H σ Q W s t c k =>
  we (pe_lst pa) (h F1 H σ _ s c fun vs F2 H2 e2 r2 => ⟨by rw [r2.length]; exact Nat.le_of_lt (small1000 hz), fun p hp =>
    k _ ⟨p, e2.st.ads_ne hp, rfl⟩ _ F2 _ (e2.trans (Ext.mkM e2.st hp (.lst r2))) (.ref p)⟩)
theorem m_list [B : Bd X Γ N sc] (hm : Γ.mg "list" = none) (h : EvD X F e δ x) (hx : x = .tup ds ∨ x = .lst ds) (hg : glB sc "list" = true := by decide +kernel) (he : starEach [e] X.env = (false, eval e X.env) :: starEach [] X.env := by first | exact plSt | rfl) :
    EmD X F (.Call (.Name "list" p) [e] [] pos) δ (NewL δ.m ds) := fun F1 H σ Q W s t c k =>
  we (pe_callTy call_list_of (B.gl hg).1 (by rw [B.mg]; exact hm) (by decide +kernel) pa (B.gl hg).2.2 (B.gl hg).2.1 he pl0) (a_one h he F1 H σ _ s c fun vs F2 H2 e2 r2 => by
    cases r2 with
    | cons r1 r2 =>
      cases r2
      rcases hx with rfl | rfl
      · cases r1 with
        | tup hp ra => exact ⟨_, _, rfl, .inr (SqT.of (e2.sub _ _ hp)), fun l hl => k _ ⟨l, e2.st.ads_ne hl, rfl⟩ _ F2 _ (e2.trans (Ext.mkM e2.st hl (.lst ra))) (.ref l)⟩
      · cases r1 with
        | lst hp ra => exact ⟨_, _, rfl, .inl (SqL.of (e2.sub _ _ hp)), fun l hl => k _ ⟨l, e2.st.ads_ne hl, rfl⟩ _ F2 _ (e2.trans (Ext.mkM e2.st hl (.lst ra))) (.ref l)⟩)
/-- list(x), x one that may change -/
theorem m_listC [B : Bd X Γ N sc] (j : Nat) (hm : Γ.mg "list" = none) (h : EvD X F e δ (.ref q)) (hj : δ.m[j]? = some (q, .lst ds)) (hg : glB sc "list" = true := by decide +kernel) (he : starEach [e] X.env = (false, eval e X.env) :: starEach [] X.env := by first | exact plSt | rfl) :
    EmD X F (.Call (.Name "list" p) [e] [] pos) δ (NewL δ.m ds) := fun F1 H σ Q W s t c k =>
  we (pe_callTy call_list_of (B.gl hg).1 (by rw [B.mg]; exact hm) (by decide +kernel) pa (B.gl hg).2.2 (B.gl hg).2.1 he pl0) (a_one h he F1 H σ _ s c fun vs F2 H2 e2 r2 => by
    cases r2 with
    | cons r1 r2 =>
      cases r2
      cases r1
      obtain ⟨xs, h1, h2⟩ := e2.st.lst hj
      exact ⟨_, _, rfl, .inl (SqL.of h1), fun l hl => k _ ⟨l, e2.st.ads_ne hl, rfl⟩ _ F2 _ (e2.trans (Ext.mkM e2.st hl (.lst h2))) (.ref l)⟩)
theorem RepK.keyA {F1 : Hp} : ∀ {xs : List (Key × V)} {kvs : List (Key × Dt)}, RepK F1 xs kvs → RepA F1 (xs.map fun kv => kV kv.1) (kvs.map fun kv => kD kv.1)
  | _, _, .nil => .nil
  | _, _, .cons _ r => .cons rep_kD (RepK.keyA r)
/-- list(d), d a dict -/
theorem m_listD [B : Bd X Γ N sc] {kvs : List (Key × Dt)} (hm : Γ.mg "list" = none) (h : EvD X F e δ (.ref q)) (hd : DkAt F δ.m q kvs) (hg : glB sc "list" = true := by decide +kernel) (he : starEach [e] X.env = (false, eval e X.env) :: starEach [] X.env := by first | exact plSt | rfl) :
    EmD X F (.Call (.Name "list" p) [e] [] pos) δ (NewL δ.m (kvs.map fun kv => kD kv.1)) := fun F1 H σ Q W s t c k =>
  we (pe_callTy (call_listD B.calm) (B.gl hg).1 (by rw [B.mg]; exact hm) (by decide +kernel) pa (B.gl hg).2.2 (B.gl hg).2.1 he pl0) (a_one h he F1 H σ _ s c fun vs F2 H2 e2 r2 => by
    cases r2 with
    | cons r1 r2 =>
      cases r2
      cases r1
      obtain ⟨xs, h1, h2⟩ := hd.rd e2.st (s.trans e2.ff)
      exact ⟨_, _, rfl, h1, fun l hl => k _ ⟨l, e2.st.ads_ne hl, rfl⟩ _ F2 _ (e2.trans (Ext.mkM e2.st hl (.lst h2.keyA))) (.ref l)⟩)
/-- a + b, a a list that may change, as a new list to be changed -/
theorem m_catC [B : Bd X Γ N sc] (j : Nat) {es : List Dt} (ha : EvD X F a δ (.ref q)) (hj : δ.m[j]? = some (q, .lst ds)) (hb : EvD X F b δ (.lst es)) (hz : ds.length + es.length ≤ sizeLine) : EmD X F (.BinOp a .Add b pos) δ (NewL δ.m (ds ++ es)) := fun F1 H σ Q W s t c k =>
  we (pe_op op_cat pe pe) (ha F1 H σ _ s c fun v F2 H2 e2 r2 => hb F2 H2 σ _ (s.trans e2.ff) (c.ext e2) fun u F3 H3 e3 r3 => by
    cases r2
    obtain ⟨xs, h1, h2⟩ := e3.st.lst hj
    cases r3 with
    | lst hy ray => exact ⟨_, _, _, _, rfl, rfl, h1, e3.sub _ _ hy, by rw [h2.length, ray.length]; exact hz, fun l hl => k _ ⟨l, e3.st.ads_ne hl, rfl⟩ _ F3 _ ((e2.trans e3).trans (Ext.mkM e3.st hl (.lst (h2.append ray)))) (.ref l)⟩)
theorem m_dictK {pos : Pos} : EmD X F (.Dict [] [] pos) δ (fun r => ∃ q, q ∉ δ.m.ads ∧ r = .ok (.ref q) ((q, .dK []) :: δ.m)) := fun F1 H σ Q W s t c k =>
  we pe_dnewK (fun p hp => k _ ⟨p, c.st.ads_ne hp, rfl⟩ _ F1 _ (Ext.mkM c.st hp (.dK .nil)) (.ref p))
theorem m_dictT {pos : Pos} : EmD X F (.Dict [] [] pos) δ (fun r => ∃ q, q ∉ δ.m.ads ∧ r = .ok (.ref q) ((q, .dT []) :: δ.m)) := fun F1 H σ Q W s t c k =>
  we pe_dnewT (fun p hp => k _ ⟨p, c.st.ads_ne hp, rfl⟩ _ F1 _ (Ext.mkM c.st hp (.dT .nil)) (.ref p))
/-- d[k] = e -/
theorem s_putD [B : Bd X Γ N sc] {k : Nat} (j : Nat) (kk : Key) {kvs : List (Key × Dt)} {pos' : Pos} (hr : Room k Γ.A) (hj : δ.m[j]? = some (q, .dK kvs)) (hv : EvD X F e δ d) (ho : EvD X F a δ (.ref q)) (hi : EvD X F b δ (kD kk)) (hz : kvs.length < sizeLine)
    (hR : SD X F rest (δ.to (δ.m.set j (q, .dK (putD kvs kk d)))) O) (hs : swapsWith e (some (.Subscript a b pos')) pos.line X.env = pure false := by rfl) : SD X F (.Assign [.Subscript a b pos'] e pos :: rest) δ O := fun F1 H σ D W s t c p =>
  wss (pss_cons (ps_dput (by rw [B.A]; exact room1 hr) pe pe pe hs) pss) (hv F1 H σ _ s c fun v F2 H2 e2 r2 => ho F2 H2 σ _ (s.trans e2.ff) (c.ext e2) fun u F3 H3 e3 r3 => hi F3 H3 σ _ ((s.trans e2.ff).trans e3.ff) ((c.ext e2).ext e3) fun w F4 H4 e4 r4 => by
    cases r3
    have hw := rep_key r4
    subst hw
    obtain ⟨xs, h1, h2⟩ := e4.st.dK hj
    have hv' : Rep F4 v d := (r2.mono e3.ff).mono e4.ff
    have e5 := ((e2.trans e3).trans e4).trans (Ext.mut e4.st hj (.dK (h2.put kk hv')))
    exact ⟨q, _, rfl, DPut.k h1 (by rw [h2.length]; exact hz), hR F4 _ σ D W (s.trans e5.ff) t (c.to e5) fun o ho => (p o ho).ext e5⟩)
/-- self.f = e -/
theorem putF_rep {F1 : Hp} (f : Str) {v : V} {d : Dt} (r : Rep F1 v d) : ∀ {xs : List (Str × V)} {fs : List (Str × Dt)}, RepK F1 xs fs → RepK F1 (putF f v xs) (putFD f d fs)
  | _, _, .nil => .cons r .nil
  | _, _, @RepK.cons _ _ g y e vs es h t => by
    unfold putF putFD
    by_cases q : g = f
    · rw [if_pos q, if_pos q]; exact .cons r t
    · rw [if_neg q, if_neg q]; exact .cons h (putF_rep f r t)
theorem s_fld [B : Bd X Γ N sc] (j : Nat) {C : Addr} {fs : List (Str × Dt)} {f : Str} {pos' : Pos} (hv : EvD X F e δ d) (ho : EvD X F ob δ (.ref q)) (hj : δ.m[j]? = some (q, .ins C fs)) (hc : Cls Γ.K C) (hn : NoAttr Γ.K C f) (hz : fs.length < 1000)
    (hR : SD X F rest (δ.to (δ.m.set j (q, .ins C (putFD f d fs)))) O) (hs : swapsWith e (some (.Attribute ob f pos')) pos.line X.env = pure false := by rfl) : SD X F (.Assign [.Attribute ob f pos'] e pos :: rest) δ O := fun F1 H σ D W s t c p =>
  wss (pss_cons (ps_fld pe pe hs) pss) (hv F1 H σ _ s c fun v F2 H2 e2 r2 => ho F2 H2 σ _ (s.trans e2.ff) (c.ext e2) fun u F3 H3 e3 r3 => by
    cases r3
    obtain ⟨dx, xs, h1, h2⟩ := e3.st.ins hj
    have e5 := (e2.trans e3).trans (Ext.mut e3.st hj (.ins (C := C) (dx := dx) (putF_rep f (r2.mono e3.ff) h2)))
    exact ⟨q, C, dx, xs, rfl, h1, by rw [B.K]; exact hc, by rw [B.K]; exact hn, by rw [h2.length]; exact hz, hR F3 _ σ D W (s.trans e5.ff) t (c.to e5) fun o ho => (p o ho).ext e5⟩)
/-- .. of what may change and raise -/
theorem s_fldM [B : Bd X Γ N sc] {C : Addr} {f : Str} {pos' : Pos} {R : Rem → Prop} (hv : EmD X F e δ R) (hx' : ∀ C m', R (.err C m') → O (.err C m')) (hc : Cls Γ.K C) (hn : NoAttr Γ.K C f)
    (hR : ∀ d m', R (.ok d m') → ∃ (j : Nat) (q : Addr) (fs : List (Str × Dt)), EvD X F ob (δ.to m') (.ref q) ∧ m'[j]? = some (q, Md.ins C fs) ∧ fs.length < 1000 ∧ SD X F rest (δ.to (m'.set j (q, .ins C (putFD f d fs)))) O) (hs : swapsWith e (some (.Attribute ob f pos')) pos.line X.env = pure false := by rfl) : SD X F (.Assign [.Attribute ob f pos'] e pos :: rest) δ O := fun F1 H σ D W s t c p =>
  wss (pss_cons (ps_fld pe pe hs) pss) (hv F1 H σ _ W s t c fun r hr => by
    cases r with
    | err C m' => exact fun F2 H2 σ2 e2 => p _ (hx' C m' hr) F2 H2 σ2 e2
    | ok d m' =>
      intro v F2 H2 e2 r2
      obtain ⟨j, q, fs, ho, hj, hz, hR⟩ := hR d m' hr
      refine ho F2 H2 σ _ (s.trans e2.ff) (c.to e2) fun u F3 H3 e3 r3 => ?_
      cases r3
      obtain ⟨dx, xs, h1, h2⟩ := e3.st.ins hj
      have e5 := (e2.trans e3).trans (Ext.mut e3.st hj (.ins (C := C) (dx := dx) (putF_rep f (r2.mono e3.ff) h2)))
      exact ⟨q, C, dx, xs, rfl, h1, by rw [B.K]; exact hc, by rw [B.K]; exact hn, by rw [h2.length]; exact hz, hR F3 _ σ D W (s.trans e5.ff) t (c.to e5) fun o ho => (p o ho).ext e5⟩)
/-- x[i] = e -/
theorem s_putL [B : Bd X Γ N sc] (j : Nat) {k : Int} {i : Nat} {pos' : Pos} (hj : δ.m[j]? = some (q, .lst ds)) (hv : EvD X F e δ d) (ho : EvD X F a δ (.ref q)) (hi : EvD X F b δ (.int k)) (hk : ixN ds.length k = some i)
    (hR : SD X F rest (δ.to (δ.m.set j (q, .lst (ds.set i d)))) O) (hs : swapsWithSole [.Subscript a b pos'] e pos.line X.env = pure false := by rfl) (hw : swappedStores [.Subscript a b pos'] e X.env = pure none := by rfl)
    (h1 : (assignEach [.Subscript a b pos'] X.env).map (·.2) = [assign (.Subscript a b pos') X.env] := by rfl)
    (hsub : ∀ v, assign (.Subscript a b pos') X.env v = (do
      let ov ← holding [v] (eval a X.env)
      let iv ← holding [v, ov] (eval b X.env)
      standAt pos'
      holding [v, ov, iv] (setItem ov iv v)
      release [v, ov, iv] []) := by intro _; rfl) : SD X F (.Assign [.Subscript a b pos'] e pos :: rest) δ O := fun F1 H σ D W s t c p =>
  wss (pss_cons (ps_asg pe (pg_sub pe pe set_list hsub) hs hw h1) pss) (hv F1 H σ _ s c fun v F2 H2 e2 r2 => ho F2 H2 σ _ (s.trans e2.ff) (c.ext e2) fun u F3 H3 e3 r3 => hi F3 H3 σ _ ((s.trans e2.ff).trans e3.ff) ((c.ext e2).ext e3) fun w F4 H4 e4 r4 => by
    cases r3
    cases r4
    obtain ⟨xs, h1, h2⟩ := e4.st.lst hj
    have hv' : Rep F4 v d := (r2.mono e3.ff).mono e4.ff
    have e5 := ((e2.trans e3).trans e4).trans (Ext.mut e4.st hj (.lst (RepA.set hv' i h2)))
    exact ⟨q, xs, k, i, rfl, rfl, h1, by rw [h2.length]; exact hk, hR F4 _ σ D W (s.trans e5.ff) t (c.to e5) fun o ho => (p o ho).ext e5⟩)
/-- what may change is known from now on -/
theorem s_frzL (j : Nat) (hj : δ.m[j]? = some (q, .lst ds)) (i : Nat) (hi : δ.s[i]? = some (some (.ref q))) (h : SD X F st ((δ.to (δ.m.eraseIdx j)).set i (some (.lst ds))) O) : SD X F st δ O := fun F1 H σ D W s t c p => by
  obtain ⟨xs, h1, h2⟩ := c.st.lst hj
  have e1 := Ext.frz c.st hj h1
  have c1 := c.to e1
  refine h (upd F1 q (.lst xs)) H σ D W (s.trans e1.ff) t ⟨c1.st, fun i' d' hd => ?_, by simpa using c1.len⟩ fun o ho => (p o ho).ext e1
  by_cases e : i = i'
  · subst e
    have hl := (List.getElem?_eq_some_iff.mp hi).1
    change (δ.s.set i (some (.lst ds)))[i]? = _ at hd
    rw [List.getElem?_set_self hl] at hd
    cases hd
    obtain ⟨v, g1, g2⟩ := c1.slot i _ hi
    cases g2
    exact ⟨_, g1, .lst upd_same (h2.mono e1.ff)⟩
  · change (δ.s.set i (some (.lst ds)))[i']? = _ at hd
    rw [List.getElem?_set_ne e] at hd
    exact c1.slot i' d' hd
/-- .. of an answer -/
theorem EmD.frz {R : Rem → Prop} (h : EmD X F e δ R) : EmD X F e δ (fun r => (∃ d m', R (.ok d m') ∧ ((r = .ok d m') ∨ ∃ (j : Nat) (q : Addr) (ds : List Dt), d = .ref q ∧ m'[j]? = some (q, Md.lst ds) ∧ r = .ok (.lst ds) (m'.eraseIdx j))) ∨ ∃ C m', R (.err C m') ∧ r = .err C m') := fun F1 H σ Q W s t c k => h F1 H σ Q W s t c fun r hr => by
  cases r with
  | ok d m' => exact k _ (.inl ⟨d, m', hr, .inl rfl⟩)
  | err C m' => exact k _ (.inr ⟨C, m', hr, rfl⟩)
theorem EmD.mono {R R' : Rem → Prop} (h : EmD X F e δ R) (i : ∀ r, R r → R' r) : EmD X F e δ R' := fun F1 H σ Q W s t c k => h F1 H σ Q W s t c fun r hr => k r (i r hr)
/-- a new list may be taken as known -/
theorem EmD.newL (h : EmD X F e δ (NewL δ.m ds)) : EvD X F e δ (.lst ds) := fun F1 H σ Q s c k => h F1 H σ Q _ s takesN0 c fun r hr => by
  obtain ⟨q, hq, rfl⟩ := hr
  intro v F' H' e' r'
  cases r'
  have hj : ((q, Md.lst ds) :: δ.m)[0]? = some (q, .lst ds) := rfl
  obtain ⟨xs, h1, h2⟩ := e'.st.lst hj
  have e1 := Ext.frz e'.st hj h1
  exact k _ _ H' (e'.trans e1) (.lst upd_same (h2.mono e1.ff))
/-! one statement -/
theorem ret1 {st : Stmt} (he : EvD X F e δ d) (ho : O (.ret d δ.m)) : S1 X F (.Return (some e) pos) δ O := fun F1 H σ D W s t c p =>
  ws (ps_ret pe) (he F1 H σ _ s c fun v F2 H2 e2 r2 => p _ ho v F2 H2 e2 r2)
theorem ret1M {R : Rem → Prop} (he : EmD X F e δ R) (hr : ∀ d m', R (.ok d m') → O (.ret d m')) (hx' : ∀ C m', R (.err C m') → O (.err C m')) : S1 X F (.Return (some e) pos) δ O := fun F1 H σ D W s t c p =>
  ws (ps_ret pe) (he F1 H σ _ W s t c fun r hR => by
    cases r with
    | ok d m' => exact fun v F2 H2 e2 r2 => p _ (hr d m' hR) v F2 H2 e2 r2
    | err C m' => exact fun F2 H2 σ2 e2 => p _ (hx' C m' hR) F2 H2 σ2 e2)
end
end G

set_option Elab.async false
set_option linter.all false
set_option maxRecDepth 100000
set_option maxHeartbeats 4000000
namespace G
open PySem PySem.Spec PyProof.Rows L2
section
variable {X : Cx} {F : Hp} {δ δ1 : Sl} {e a b c tg iter ob : Expr} {es : List Expr} {d x y z : Dt} {ds : List Dt} {st : Stmt} {body els rest : List Stmt} {O : Out → Prop} {pos p apos px : Pos} {n : Str} {L : List (Addr × HO)} {Γ : Gm} {N : List Str} {sc : Scope} {j : Nat} {q : Addr}
/-! ### calls that may raise and change -/
theorem passW {W : WX} (t : L2N.Takes X W) : Passes (L2N.CX X.prog X.w) X (fun cls d H => ∀ σ, W cls d σ H) := fun pins σ H s e s' I c => t e s' (L2N.XE.of_call I (fun _ _ _ h => h σ) c)
theorem EmD.ev {R : Rem → Prop} (h : EmD X F e δ R) (hR : ∀ r, R r → r = .ok d δ.m) : EvD X F e δ d := fun F1 H σ Q s c k => h F1 H σ Q _ s takesN0 c fun r hr => by
  cases hR r hr
  exact k
theorem m_call [B : Bd X Γ N sc] {k : Nat} {n : Str} {pre : Hp → List Dt → Mm → (Rem → Prop) → Prop} {R : Rem → Prop} (C : Cal Γ.P Γ.w Γ.K Γ.mg Γ.base (L2N.CX Γ.P Γ.w) k n (spM pre)) (hr : Room k Γ.A) (ha : EaD X F (e :: es) δ ds) (hpre : ∀ F1, Same F F1 → pre F1 ds δ.m R)
    (hg : glB sc n = true := by decide +kernel) (he : starEach (e :: es) X.env = (false, eval e X.env) :: starEach es X.env := by first | exact plSt | rfl) (hpl : (backTo pos (starEach es X.env)).any (·.1) = false := by rfl) :
    EmD X F (.Call (.Name n p) (e :: es) [] pos) δ R := fun F1 H σ Q W s t c q =>
  we (c_call (by rw [B.prog, B.w, B.K, B.mg, B.base]; exact C) (by rw [B.A]; exact hr) (B.gl hg).1 (passW t) pa (B.gl hg).2.1 he hpl) (ha F1 H σ _ s c fun vs F2 H2 e2 r2 => by
    show spM pre (vs ++ []) H2 Q _
    rw [List.append_nil]
    refine ⟨F2, ds, δ.m, R, e2.st, r2, hpre F2 (s.trans e2.ff), fun r hR => ?_⟩
    cases r with
    | ok d m' => exact fun v F3 H3 e3 r3 => q _ hR v F3 H3 (e2.trans e3) r3
    | err C m' => exact fun F3 H3 e3 σ' => q _ hR F3 H3 σ' (e2.trans e3))
/-- what a promise without change is, among those with -/
def preM (pre : Hp → List Dt → Res → Prop) : Hp → List Dt → Mm → (Rem → Prop) → Prop := fun F ds m R => ∃ r, pre F ds r ∧ R = fun z => z = (match r with
  | .ok d => .ok d m
  | .err C => .err C m)
theorem spM_of {pre : Hp → List Dt → Res → Prop} : ∀ vs H Q E, spM (preM pre) vs H Q E → spR pre vs H Q E := fun vs H Q E ⟨F, ds, m, R, s, r, ⟨z, hp, hR⟩, k⟩ => by
  subst hR
  refine ⟨F, ds, z, m, s, r, hp, ?_⟩
  cases z with
  | ok d => exact k _ rfl
  | err C => exact k _ rfl
theorem Cal.m {P : Program} {w : World} {K : PySem.W.Frag} {mg : Str → Option Value} {base : Heap} {cx : CXT} {k : Nat} {n : Str} {pre : Hp → List Dt → Res → Prop} (c : Cal P w K mg base cx k n (spR pre)) : Cal P w K mg base cx k n (spM (preM pre)) := c.imp spM_of
theorem CalM.m {P : Program} {w : World} {K : PySem.W.Frag} {mg : Str → Option Value} {base : Heap} {cx : CXT} {k : Nat} {C n : Str} {pre : Hp → List Dt → Res → Prop} (c : CalM P w K mg base cx k C n (spR pre)) : CalM P w K mg base cx k C n (spM (preM pre)) := by
  obtain ⟨f, fd, ps, h1, h2, h3⟩ := c.ex
  exact ⟨f, fd, ps, h1.imp spM_of, h2, h3⟩
/-- methods -/
theorem m_meth [B : Bd X Γ N sc] {cc : Addr} {k : Nat} {Cn m : Str} {fs : List (Str × Dt)} {pre : Hp → List Dt → Mm → (Rem → Prop) → Prop} {R : Rem → Prop} {pl : Sem Bool} (j : Nat) (C : CalM Γ.P Γ.w Γ.K Γ.mg Γ.base (L2N.CX Γ.P Γ.w) k Cn m (spM pre)) (hc : Cls Γ.K (He.ga Γ.K Cn)) (hr : Room k Γ.A)
    (ho : EvD X F ob δ (.ref q)) (hj : δ.m[j]? = some (q, .ins cc fs)) (hf : fs.lookup m = none) (ha : EaD X F (e :: es) δ ds) (hpre : ∀ F1, Same F F1 → pre F1 (.ref q :: ds) δ.m R) (hcc : cc = He.ga Γ.K Cn := by rfl)
    (he : starEach (e :: es) X.env = (false, eval e X.env) :: starEach es X.env := by first | exact plSt | rfl) (hpl : (backTo pos (starEach es X.env)).any (·.1) = false := by rfl)
    (ht : eval (.Call (.Attribute ob m apos) (e :: es) [] pos) X.env = (do
      let ov ← eval ob X.env
      standAt apos.atName
      let (f, first) ← holding [ov] (getMethod ov m pl)
      callWith pos f first (backTo pos (starEach (e :: es) X.env)) (backToKw pos (keywordEach [] X.env))) := by rfl) :
    EmD X F (.Call (.Attribute ob m apos) (e :: es) [] pos) δ R := fun F1 H σ Q W s t c kq => by
  subst hcc
  obtain ⟨f, fd, ps, g1, g2, g3⟩ := C.ex
  refine we (pe_meth (dvs := []) (ds := []) pe (by rw [B.K]; exact hc) (by rw [B.K]; exact g2) (by rw [B.prog, B.w, B.K, B.mg, B.base]; exact g1) (by rw [B.A]; exact hr) (by rw [B.K]; exact g3) .nil (by rw [← B.prog, ← B.w]; exact passW t) pa he hpl ht) (ho F1 H σ _ s c fun v F2 H2 e2 r2 => ?_)
  cases r2
  obtain ⟨dx, xs, h1, h2⟩ := e2.st.ins hj
  have hl : xs.lookup m = none := by
    rcases h2.look m with ⟨z, _⟩ | ⟨_, _, _, z, _⟩
    · exact z
    · rw [hf] at z; cases z
  refine ⟨q, dx, xs, rfl, h1, hl, ha F2 H2 σ _ (s.trans e2.ff) (c.ext e2) fun vs F3 H3 e3 r3 => ?_⟩
  rw [List.append_nil]
  refine ⟨F3, _, δ.m, R, e3.st, .cons (.ref q) r3, hpre F3 ((s.trans e2.ff).trans e3.ff), fun r hR => ?_⟩
  cases r with
  | ok d m' => exact fun v F4 H4 e4 r4 => kq _ hR v F4 H4 ((e2.trans e3).trans e4) r4
  | err C m' => exact fun F4 H4 e4 σ' => kq _ hR F4 H4 σ' ((e2.trans e3).trans e4)
theorem m_meth0 [B : Bd X Γ N sc] {cc : Addr} {k : Nat} {Cn m : Str} {fs : List (Str × Dt)} {pre : Hp → List Dt → Mm → (Rem → Prop) → Prop} {R : Rem → Prop} {pl : Sem Bool} (j : Nat) (C : CalM Γ.P Γ.w Γ.K Γ.mg Γ.base (L2N.CX Γ.P Γ.w) k Cn m (spM pre)) (hc : Cls Γ.K (He.ga Γ.K Cn)) (hr : Room k Γ.A)
    (ho : EvD X F ob δ (.ref q)) (hj : δ.m[j]? = some (q, .ins cc fs)) (hf : fs.lookup m = none) (hpre : ∀ F1, Same F F1 → pre F1 [.ref q] δ.m R) (hcc : cc = He.ga Γ.K Cn := by rfl)
    (ht : eval (.Call (.Attribute ob m apos) [] [] pos) X.env = (do
      let ov ← eval ob X.env
      standAt apos.atName
      let (f, first) ← holding [ov] (getMethod ov m pl)
      callWith pos f first (backTo pos (starEach [] X.env)) (backToKw pos (keywordEach [] X.env))) := by rfl) :
    EmD X F (.Call (.Attribute ob m apos) [] [] pos) δ R := fun F1 H σ Q W s t c kq => by
  subst hcc
  obtain ⟨f, fd, ps, g1, g2, g3⟩ := C.ex
  refine we (pe_meth0 (dvs := []) (ds := []) pe (by rw [B.K]; exact hc) (by rw [B.K]; exact g2) (by rw [B.prog, B.w, B.K, B.mg, B.base]; exact g1) (by rw [B.A]; exact hr) (by rw [B.K]; exact g3) .nil (by rw [← B.prog, ← B.w]; exact passW t) ht) (ho F1 H σ _ s c fun v F2 H2 e2 r2 => ?_)
  cases r2
  obtain ⟨dx, xs, h1, h2⟩ := e2.st.ins hj
  have hl : xs.lookup m = none := by
    rcases h2.look m with ⟨z, _⟩ | ⟨_, _, _, z, _⟩
    · exact z
    · rw [hf] at z; cases z
  refine ⟨q, dx, xs, rfl, h1, hl, ?_⟩
  refine ⟨F2, _, δ.m, R, e2.st, .cons (.ref q) .nil, hpre F2 (s.trans e2.ff), fun r hR => ?_⟩
  cases r with
  | ok d m' => exact fun v F4 H4 e4 r4 => kq _ hR v F4 H4 (e2.trans e4) r4
  | err C m' => exact fun F4 H4 e4 σ' => kq _ hR F4 H4 σ' (e2.trans e4)
/-- an object is made -/
theorem m_make [B : Bd X Γ N sc] {k : Nat} {Cn : Str} {pre : Hp → List Dt → Mm → (Rem → Prop) → Prop} {R : Rem → Prop} {f : Addr} (C : CalM Γ.P Γ.w Γ.K Γ.mg Γ.base (L2N.CX Γ.P Γ.w) k Cn "__init__" (spM pre)) (hk : Mk Γ.K (He.ga Γ.K Cn) (He.ma Γ.K (He.ga Γ.K Cn) "__init__")) (hmg : Γ.mg Cn = some (.ref (He.ga Γ.K Cn))) (hr : Room (k + 1) Γ.A)
    (ha : EaD X F (e :: es) δ ds) (hpre : ∀ F1 q, Same F F1 → q ∉ δ.m.ads → ∃ R', pre F1 (.ref q :: ds) ((q, .ins (He.ga Γ.K Cn) []) :: δ.m) R' ∧ (∀ d m', R' (.ok d m') → d = .non ∧ R (.ok (.ref q) m')) ∧ ∀ C m', R' (.err C m') → R (.err C m'))
    (hg : glB sc Cn = true := by decide +kernel) (he : starEach (e :: es) X.env = (false, eval e X.env) :: starEach es X.env := by first | exact plSt | rfl) (hpl : (backTo pos (starEach es X.env)).any (·.1) = false := by rfl) :
    EmD X F (.Call (.Name Cn p) (e :: es) [] pos) δ R := fun F1 H σ Q W s t c kq => by
  obtain ⟨f, fd, ps, g1, g2, g3⟩ := C.ex
  have hff : f = He.ma Γ.K (He.ga Γ.K Cn) "__init__" := by
    have h1 := g2.at_
    rw [hk.init] at h1
    injection h1 with h1
    injection h1 with h1
    injection h1 with h1
    exact h1.symm
  subst hff
  refine we (pe_make (dvs := []) (ds := []) (by rw [B.K]; exact hk) (by rw [B.prog, B.w, B.K, B.mg, B.base]; exact g1) (by rw [B.A]; exact hr) (B.gl hg).1 (by rw [B.mg]; exact hmg) (by rw [B.K]; exact g3) .nil (by rw [← B.prog, ← B.w]; exact passW t) pa (B.gl hg).2.1 he hpl) (ha F1 H σ _ s c fun vs F2 H2 e2 r2 => ?_)
  intro x dx hx hdx hne
  rw [List.append_nil]
  have e3 : Ex δ.m F1 H F2 (upd H2 dx (.own x)) := e2.trans (Ext.mk0 e2.st hdx _)
  have hx' : upd H2 dx (.own x) x = none := by rw [upd_ne (Ne.symm hne)]; exact hx
  have e4 := e3.trans (Ext.mkM e3.st hx' (RepM.ins (C := He.ga Γ.K Cn) (dx := dx) RepK.nil))
  obtain ⟨R', hp, hR1, hR2⟩ := hpre F2 x (s.trans e2.ff) (e2.st.ads_ne hx)
  refine ⟨F2, _, _, R', e4.st, .cons (.ref x) r2, hp, fun r hR => ?_⟩
  cases r with
  | ok d m' =>
    obtain ⟨rfl, hq⟩ := hR1 d m' hR
    exact fun v F5 H5 e5 r5 => ⟨by cases r5; rfl, kq _ hq _ F5 H5 (e4.trans e5) (.ref x)⟩
  | err C m' => exact fun F5 H5 e5 σ' => kq _ (hR2 C m' hR) F5 H5 σ' (e4.trans e5)
/-! ### raise -/
theorem s_raise [B : Bd X Γ N sc] {x m : Str} {jj : Nat} {p2 pos' : Pos} (ex : ExAt Γ.K Γ.mg x) (ho : O (.err (He.ga Γ.K x) δ.m)) (hg : glB sc x = true := by decide +kernel) : SD X F (.Raise (some (.Call (.Name x p) [.Constant (.str m) jj p2] [] pos)) none pos' :: rest) δ O := fun F1 H σ D W s t c p =>
  wss (pss_cons (L2N.ps_raise B.calm t (L2N.pmk_own PySem.F.excBase_ValueError (by rw [B.K]; exact ex.ex) (by rw [B.mg]; exact ex.g) (by rw [B.K]; exact ex.kp) (raises_own (by rw [B.K]; exact ex.bs) (by rw [B.K]; exact ex.ty)) (B.gl hg).1 (B.gl hg).2.1)) pss) (p _ ho F1 H σ (.refl c.st))
/-! ### walks over dicts -/
def LockO (j : Nat) (q : Addr) (o : HO) (c : Md) (O : Out → Prop) : Out → Prop
  | .nx δ => δ.m[j]? = some (q, .lck o) ∧ O (.nx (δ.to (δ.m.set j (q, c))))
  | .ret d m => m[j]? = some (q, .lck o) ∧ O (.ret d (m.set j (q, c)))
  | .brk δ => δ.m[j]? = some (q, .lck o) ∧ O (.brk (δ.to (δ.m.set j (q, c))))
  | .ct δ => δ.m[j]? = some (q, .lck o) ∧ O (.ct (δ.to (δ.m.set j (q, c))))
  | .err C m => O (.err C m)
theorem unlock {m m' : Mm} {F1 H F' H' : Hp} {xs : List (Key × V)} {kvs : List (Key × Dt)} {o : HO} {i : Nat} (e : Ext m F1 H F' H' m') (hi : m'[i]? = some (q, .lck o)) (r : RepK F' xs kvs) : H' q = some o ∧ Ext m F1 H F' (upd H' q (.dK xs)) (m'.set i (q, .dK kvs)) := by
  obtain ⟨o', h1, h2⟩ := e.st.at hi
  cases h2
  exact ⟨h1, e.trans (Ext.mut e.st hi (.dK r))⟩
theorem Ctx.upd' {F H : Hp} {σ : L2.St} {m m' : Mm} {δ : Sl} (c : Ctx F H σ δ) {H' : Hp} (s : Sta F H' m') : Ctx F H' σ (δ.to m') := ⟨s, c.slot, c.len⟩
theorem lock1 (j j' : Nat) {kvs : List (Key × Dt)} (hj : δ.m[j]? = some (q, .dK kvs))
    (h : ∀ F1 od xs, Same F F1 → RepK F1 xs kvs → S1 X F1 st (δ.to (δ.m.set j (q, .lck (.frz od (.dK xs))))) (LockO j' q (.frz od (.dK xs)) (.dK kvs) O)) : S1 X F st δ O := fun F1 H σ D W s t c p => by
  obtain ⟨xs, h1, h2⟩ := c.st.dK hj
  refine ws (ps_lock ps) ⟨q, .dK xs, h1, trivial, fun od => ?_⟩
  have e1 := Ext.mut c.st hj (RepM.lck (F := F1) (.frz od (.dK xs)))
  refine h F1 od xs s h2 F1 _ σ _ W (Same.refl _) t (c.to e1) fun o ho => ?_
  cases o with
  | nx δ' =>
    intro F' H' σ' e' c'
    have e2 := e1.trans e'
    obtain ⟨g1, g2⟩ := unlock e2 ho.1 (h2.mono e2.ff)
    exact ⟨g1, p _ ho.2 F' _ σ' g2 ⟨g2.st, c'.slot, c'.len⟩⟩
  | ret d m' =>
    intro v F' H' e' r'
    have e2 := e1.trans e'
    obtain ⟨g1, g2⟩ := unlock e2 ho.1 (h2.mono e2.ff)
    exact ⟨g1, p _ ho.2 v F' _ g2 r'⟩
  | brk δ' =>
    intro F' H' σ' e' c'
    have e2 := e1.trans e'
    obtain ⟨g1, g2⟩ := unlock e2 ho.1 (h2.mono e2.ff)
    exact ⟨g1, p _ ho.2 F' _ σ' g2 ⟨g2.st, c'.slot, c'.len⟩⟩
  | ct δ' =>
    intro F' H' σ' e' c'
    have e2 := e1.trans e'
    obtain ⟨g1, g2⟩ := unlock e2 ho.1 (h2.mono e2.ff)
    exact ⟨g1, p _ ho.2 F' _ σ' g2 ⟨g2.st, c'.slot, c'.len⟩⟩
  | err C m' => exact fun F' H' σ' e' => p _ ho F' H' σ' (e1.trans e')
theorem s_one (h : SD X F [st] δ O) : S1 X F st δ O → SD X F [st] δ O := fun _ => h
theorem S1.seq (h : S1 X F st δ (Th X F rest O)) : SD X F (st :: rest) δ O := s_seq h
/-- for k in d -/
theorem i_keys [B : Bd X Γ N sc] (j : Nat) {od : Obj} {xs : List (Key × V)} {kvs : List (Key × Dt)} (he : EvD X F e δ (.ref q)) (hj : δ.m[j]? = some (q, .lck (.frz od (.dK xs)))) (hk : xs.map (·.1) = kvs.map (·.1)) : IterD X F [(q, .frz od (.dK xs))] tg e δ (kvs.map fun kv => kD kv.1) := fun F1 H σ R s c k =>
  wi (pi_keys pe) (he F1 H σ _ s c fun v F2 H2 e2 r2 => by
    cases r2
    obtain ⟨o, h1, h2⟩ := e2.st.at hj
    cases h2
    have hl : xs.length = kvs.length := by simpa using congrArg List.length hk
    refine ⟨q, od, rfl, .inl ⟨xs, h1, k _ F2 H2 e2 ⟨fun i H' _ lk hi => ?_, fun i d m Fc H' x H'' hi s1 s2 lk hy => ?_, fun i H' _ lk hi => ?_⟩⟩⟩
    · exact ⟨lk _ (List.mem_singleton_self _), by rw [hl]; simpa using hi⟩
    · obtain ⟨rfl, kk, v, hx, rfl⟩ := hy
      have : (kvs.map (·.1))[i]? = some kk := by rw [← hk, List.getElem?_map, hx]; rfl
      rw [List.getElem?_map] at this
      obtain ⟨kv, g1, g2⟩ := Option.map_eq_some_iff.mp this
      rw [List.getElem?_map, g1] at hi
      cases hi
      cases g2
      exact ⟨Fc, .refl s2, rep_kD⟩
    · exact ⟨lk _ (List.mem_singleton_self _), by rw [hl]; simpa using hi⟩)
/-- for x in a list that may change, but stands here -/
def PinO (j : Nat) (q : Addr) (o : HO) (c : Md) (O : Out → Prop) : Out → Prop
  | .nx δ => δ.m[j]? = some (q, .lck o) ∧ O (.nx (δ.to (δ.m.set j (q, c))))
  | .ret d m => m[j]? = some (q, .lck o) ∧ O (.ret d (m.set j (q, c)))
  | .brk δ => δ.m[j]? = some (q, .lck o) ∧ O (.brk (δ.to (δ.m.set j (q, c))))
  | .ct δ => δ.m[j]? = some (q, .lck o) ∧ O (.ct (δ.to (δ.m.set j (q, c))))
  | .err C m => m[j]? = some (q, .lck o) ∧ O (.err C (m.set j (q, c)))
theorem pin1 (j j' : Nat) (hj : δ.m[j]? = some (q, .lst ds))
    (h : ∀ F1 xs, Same F F1 → RepA F1 xs ds → SD X F1 rest (δ.to (δ.m.set j (q, .lck (.lst xs)))) (PinO j' q (.lst xs) (.lst ds) O)) : SD X F rest δ O := fun F1 H σ D W s t c p => by
  obtain ⟨xs, h1, h2⟩ := c.st.lst hj
  have e1 : Ext δ.m F1 H F1 H (δ.m.set j (q, .lck (.lst xs))) := by
    have := Ext.mut c.st hj (RepM.lck (F := F1) (.lst xs))
    have e : upd H q (.lst xs) = H := by funext b; unfold upd; split <;> simp_all
    rw [e] at this
    exact this
  have back : ∀ {m m' : Mm} {F' H' : Hp}, Ext m F1 H F' H' m' → m'[j']? = some (q, .lck (.lst xs)) → Ext m F1 H F' H' (m'.set j' (q, .lst ds)) := fun {m m' F' H'} e hi => by
    obtain ⟨o', g1, g2⟩ := e.st.at hi
    cases g2
    have := e.trans (Ext.mut e.st hi (RepM.lst (h2.mono e.ff)))
    have e' : upd H' q (.lst xs) = H' := by funext b; unfold upd; split <;> simp_all
    rw [e'] at this
    exact this
  refine h F1 xs s h2 F1 _ σ _ W (Same.refl _) t (c.to e1) fun o ho => ?_
  cases o with
  | nx δ' => exact fun F' H' σ' e' c' => p _ ho.2 F' _ σ' (back (e1.trans e') ho.1) ⟨(back (e1.trans e') ho.1).st, c'.slot, c'.len⟩
  | ret d m' => exact fun v F' H' e' r' => p _ ho.2 v F' _ (back (e1.trans e') ho.1) r'
  | brk δ' => exact fun F' H' σ' e' c' => p _ ho.2 F' _ σ' (back (e1.trans e') ho.1) ⟨(back (e1.trans e') ho.1).st, c'.slot, c'.len⟩
  | ct δ' => exact fun F' H' σ' e' c' => p _ ho.2 F' _ σ' (back (e1.trans e') ho.1) ⟨(back (e1.trans e') ho.1).st, c'.slot, c'.len⟩
  | err C m' => exact fun F' H' σ' e' => p _ ho.2 F' H' σ' (back (e1.trans e') ho.1)
theorem pinS (j j' : Nat) (hj : δ.m[j]? = some (q, .lst ds))
    (h : ∀ F1 xs, Same F F1 → RepA F1 xs ds → S1 X F1 st (δ.to (δ.m.set j (q, .lck (.lst xs)))) (PinO j' q (.lst xs) (.lst ds) O)) : S1 X F st δ O := fun F1 H σ D W s t c p => by
  obtain ⟨xs, h1, h2⟩ := c.st.lst hj
  have e1 : Ext δ.m F1 H F1 H (δ.m.set j (q, .lck (.lst xs))) := by
    have := Ext.mut c.st hj (RepM.lck (F := F1) (.lst xs))
    have e : upd H q (.lst xs) = H := by funext b; unfold upd; split <;> simp_all
    rw [e] at this
    exact this
  have back : ∀ {m m' : Mm} {F' H' : Hp}, Ext m F1 H F' H' m' → m'[j']? = some (q, .lck (.lst xs)) → Ext m F1 H F' H' (m'.set j' (q, .lst ds)) := fun {m m' F' H'} e hi => by
    obtain ⟨o', g1, g2⟩ := e.st.at hi
    cases g2
    have := e.trans (Ext.mut e.st hi (RepM.lst (h2.mono e.ff)))
    have e' : upd H' q (.lst xs) = H' := by funext b; unfold upd; split <;> simp_all
    rw [e'] at this
    exact this
  refine h F1 xs s h2 F1 _ σ _ W (Same.refl _) t (c.to e1) fun o ho => ?_
  cases o with
  | nx δ' => exact fun F' H' σ' e' c' => p _ ho.2 F' _ σ' (back (e1.trans e') ho.1) ⟨(back (e1.trans e') ho.1).st, c'.slot, c'.len⟩
  | ret d m' => exact fun v F' H' e' r' => p _ ho.2 v F' _ (back (e1.trans e') ho.1) r'
  | brk δ' => exact fun F' H' σ' e' c' => p _ ho.2 F' _ σ' (back (e1.trans e') ho.1) ⟨(back (e1.trans e') ho.1).st, c'.slot, c'.len⟩
  | ct δ' => exact fun F' H' σ' e' c' => p _ ho.2 F' _ σ' (back (e1.trans e') ho.1) ⟨(back (e1.trans e') ho.1).st, c'.slot, c'.len⟩
  | err C m' => exact fun F' H' σ' e' => p _ ho.2 F' H' σ' (back (e1.trans e') ho.1)
theorem i_pin (j : Nat) {xs : List V} (he : EvD X F e δ (.ref q)) (hj : δ.m[j]? = some (q, .lck (.lst xs))) (hr : RepA F xs ds) : IterD X F [(q, .lst xs)] tg e δ ds := fun F1 H σ R s c k =>
  wi (pi_list pe) (he F1 H σ _ s c fun v F2 H2 e2 r2 => by
    cases r2
    obtain ⟨o, h1, h2⟩ := e2.st.at hj
    cases h2
    have ra : RepA F2 xs ds := hr.mono (s.trans e2.ff)
    refine ⟨_, rfl, ⟨_, SqL.of h1⟩, k _ F2 H2 e2 ⟨fun i H' _ lk hi => ?_, fun i d m Fc H' x H'' hi s1 s2 lk hy => ?_, fun i H' _ lk hi => ?_⟩⟩
    · obtain ⟨v, hv, _⟩ := ra.get (List.getElem?_eq_getElem hi)
      exact ⟨_, v, SqL.of (lk _ (List.mem_singleton_self _)), hv⟩
    · obtain ⟨rfl, hy⟩ := hy
      obtain ⟨v, hv, rv⟩ := ra.get hi
      have q := hy _ (SqL.of (lk _ (List.mem_singleton_self _)))
      rw [hv] at q; cases q
      exact ⟨Fc, .refl s2, rv.mono s1⟩
    · exact ⟨_, SqL.of (lk _ (List.mem_singleton_self _)), by rw [ra.length]; exact hi⟩)
/-! ### deep == -/
def pyD : Dt → PyData
  | .non => .none | .bl b => .bool b | .int i => .int i | .str s => .str s | .ref _ => .none | .ty _ => .none
  | .lst ds => .list (ds.attach.map fun ⟨d, _⟩ => pyD d) | .tup ds => .tuple (ds.attach.map fun ⟨d, _⟩ => pyD d)
theorem pyD_lst (ds : List Dt) : pyD (.lst ds) = .list (ds.map pyD) := by rw [pyD]; simp
theorem pyD_tup (ds : List Dt) : pyD (.tup ds) = .tuple (ds.map pyD) := by rw [pyD]; simp
mutual
def clD : Dt → Bool
  | .ref _ => false
  | .ty _ => false
  | .lst ds => clDs ds
  | .tup ds => clDs ds
  | _ => true
def clDs : List Dt → Bool
  | [] => true
  | d :: ds => clD d && clDs ds
end
mutual
theorem dp_of {K : PySem.W.Frag} {F H : Hp} (s : Same F H) : ∀ {v : V} {d : Dt}, Rep F v d → clD d = true → Dp K H v (pyD d)
  | _, _, .non, _ => by rw [pyD]; exact .non
  | _, _, .bl b, _ => by rw [pyD]; exact .bl b
  | _, _, .int i, _ => by rw [pyD]; exact .int i
  | _, _, .str x, _ => by rw [pyD]; exact .str x
  | _, _, .ref a, h => by simp [clD] at h
  | _, _, .ty n, h => by simp [clD] at h
  | _, _, .lst hp r, h => by rw [pyD_lst]; exact .lst (SqL.of (s _ _ hp)) (dps_of s r (by simpa [clD] using h))
  | _, _, .tup hp r, h => by rw [pyD_tup]; exact .tup (SqT.of (s _ _ hp)) (dps_of s r (by simpa [clD] using h))
theorem dps_of {K : PySem.W.Frag} {F H : Hp} (s : Same F H) : ∀ {vs : List V} {ds : List Dt}, RepA F vs ds → clDs ds = true → DpAll K H vs (ds.map pyD)
  | _, _, .nil, _ => .nil
  | _, _, .cons r t, h => by
    rw [clDs, Bool.and_eq_true] at h
    exact .cons (dp_of s r h.1) (dps_of s t h.2)
end
def okE (d : Dt) : Bool := clD d && SeqAt.shaped (pyD d)
theorem room64 {k : Nat} {A : Around} (r : Room k A) : A.units + 64 < cLine := by have := r.un; omega
theorem rd_eqD [B : Bd X Γ N sc] (h : okE x = true) (h' : okE y = true) : RD F (rEqD X.K) x y (.bl (PyData.eqv (pyD x) (pyD y))) := fun m F1 H vx vy Q s s1 rx ry k => by
  unfold okE at h h'
  rw [Bool.and_eq_true] at h h'
  exact ⟨_, _, dp_of s1.sub rx h.1, dp_of s1.sub ry h'.1, h.2, h'.2, k _ F1 H (.refl s1) (.bl _)⟩
theorem rd_neD [B : Bd X Γ N sc] (h : okE x = true) (h' : okE y = true) : RD F (rNeD X.K) x y (.bl (!PyData.eqv (pyD x) (pyD y))) := fun m F1 H vx vy Q s s1 rx ry k => by
  unfold okE at h h'
  rw [Bool.and_eq_true] at h h'
  exact ⟨_, _, dp_of s1.sub rx h.1, dp_of s1.sub ry h'.1, h.2, h'.2, k _ F1 H (.refl s1) (.bl _)⟩
theorem d_eqD [B : Bd X Γ N sc] {k : Nat} (hr : Room k Γ.A) (ha : EvD X F a δ x) (hb : EvD X F b δ y) (h : okE x = true) (h' : okE y = true) : EvD X F (.Compare a [.Eq] [b] pos) δ (.bl (PyData.eqv (pyD x) (pyD y))) := d_cmp (op_eqD (by rw [B.A]; exact room64 hr)) ha hb (rd_eqD h h')
theorem d_neD [B : Bd X Γ N sc] {k : Nat} (hr : Room k Γ.A) (ha : EvD X F a δ x) (hb : EvD X F b δ y) (h : okE x = true) (h' : okE y = true) : EvD X F (.Compare a [.NotEq] [b] pos) δ (.bl (!PyData.eqv (pyD x) (pyD y))) := d_cmp (op_neD (by rw [B.A]; exact room64 hr)) ha hb (rd_neD h h')
theorem t_eqD [B : Bd X Γ N sc] {k : Nat} (hr : Room k Γ.A) (ha : EvD X F a δ x) (hb : EvD X F b δ y) (h : okE x = true) (h' : okE y = true) : EtD X F (.Compare a [.Eq] [b] pos) δ (PyData.eqv (pyD x) (pyD y)) := t_cmp (op_eqD (by rw [B.A]; exact room64 hr)) ha hb (rd_eqD h h')
theorem t_neD [B : Bd X Γ N sc] {k : Nat} (hr : Room k Γ.A) (ha : EvD X F a δ x) (hb : EvD X F b δ y) (h : okE x = true) (h' : okE y = true) : EtD X F (.Compare a [.NotEq] [b] pos) δ (!PyData.eqv (pyD x) (pyD y)) := t_cmp (op_neD (by rw [B.A]; exact room64 hr)) ha hb (rd_neD h h')
theorem eqv_self (h : okE x = true) : PyData.eqv (pyD x) (pyD x) = true := by
  unfold okE at h
  rw [Bool.and_eq_true] at h
  exact SeqAt.eqv_refl _ (SeqAt.canLay_of_shaped h.2)
/-- a != b, a a list that may change -/
theorem t_neC [B : Bd X Γ N sc] {k : Nat} (j : Nat) (hr : Room k Γ.A) (hj : δ.m[j]? = some (q, .lst ds)) (ha : EvD X F a δ (.ref q)) (hb : EvD X F b δ y) (h : okE (.lst ds) = true) (h' : okE y = true) : EtD X F (.Compare a [.NotEq] [b] pos) δ (!PyData.eqv (pyD (.lst ds)) (pyD y)) := fun F1 H σ Q s c kq =>
  wt (pt_cmpR (op_neD (by rw [B.A]; exact room64 hr)) pe pe (nomark _)) (ha F1 H σ _ s c fun v F2 H2 e2 r2 => hb F2 H2 σ _ (s.trans e2.ff) (c.ext e2) fun u F3 H3 e3 r3 => by
    cases r2
    obtain ⟨xs, h1, h2⟩ := e3.st.lst hj
    unfold okE at h h'
    rw [Bool.and_eq_true] at h h'
    have hd : Dp X.K H3 (.ref q) (pyD (.lst ds)) := by rw [pyD_lst]; exact .lst (SqL.of h1) (dps_of e3.sub h2 (by simpa [clD] using h.1))
    exact ⟨_, _, hd, dp_of e3.sub r3 h'.1, h.2, h'.2, _, rfl, kq F3 H3 (e2.trans e3)⟩)
end
end G

set_option Elab.async false
set_option linter.all false
set_option maxRecDepth 100000
set_option maxHeartbeats 4000000
namespace G
open PySem PySem.Spec PyProof.Rows L2
section
variable {X : Cx} {F : Hp} {δ δ1 : Sl} {e a b c tg iter ob : Expr} {es : List Expr} {d x y z : Dt} {ds : List Dt} {st : Stmt} {body els rest : List Stmt} {O : Out → Prop} {pos p apos px p2 : Pos} {n : Str} {L : List (Addr × HO)} {Γ : Gm} {N : List Str} {sc : Scope} {j : Nat} {q : Addr}
/-! ### in a list of texts -/
theorem inV_strs (s : Str) : ∀ ss : List Str, inV (.str s) (ss.map V.str) = decide (s ∈ ss)
  | [] => rfl
  | t :: ss => by
    have ih := inV_strs s ss
    unfold inV at ih ⊢
    rw [List.map_cons, List.any_cons, ih]
    show (t == s || decide (s ∈ ss)) = decide (s ∈ t :: ss)
    by_cases h : t = s
    · subst h; simp
    · have h' : ¬ s = t := fun e => h e.symm
      simp [h, h']
theorem flat_strs : ∀ ss : List Str, (ss.map V.str).all flatV = true
  | [] => rfl
  | t :: ss => by rw [List.map_cons, List.all_cons, flat_strs ss]; rfl
theorem d_inLS [B : Bd X Γ N sc] {s : Str} {ss : List Str} (ha : EvD X F a δ (.str s)) (hb : EvD X F b δ (.lst (ss.map .str))) (hm : behindInMarks .In b = false := by rfl) : EvD X F (.Compare a [.In] [b] pos) δ (.bl (decide (s ∈ ss))) := d_cmp op_in_seq ha hb (fun m F1 H vx vy Q s0 s1 rx ry k => by
  cases rx
  cases ry with
  | lst hp ra =>
    have := ra.strs ss
    subst this
    exact ⟨_, _, rfl, .inl (SqL.of (s1.sub _ _ hp)), rfl, flat_strs ss, k _ F1 H (.refl s1) (by rw [inV_strs]; exact .bl _)⟩) hm
theorem d_notInLS [B : Bd X Γ N sc] {s : Str} {ss : List Str} (ha : EvD X F a δ (.str s)) (hb : EvD X F b δ (.lst (ss.map .str))) (hm : behindInMarks .NotIn b = false := by rfl) : EvD X F (.Compare a [.NotIn] [b] pos) δ (.bl (!decide (s ∈ ss))) := d_cmp op_notIn_seq ha hb (fun m F1 H vx vy Q s0 s1 rx ry k => by
  cases rx
  cases ry with
  | lst hp ra =>
    have := ra.strs ss
    subst this
    exact ⟨_, _, rfl, .inl (SqL.of (s1.sub _ _ hp)), rfl, flat_strs ss, k _ F1 H (.refl s1) (by
      show Rep F1 (.bl (if true = true then !inV (.str s) (ss.map V.str) else inV (.str s) (ss.map V.str))) _
      rw [if_pos rfl, inV_strs]; exact .bl _)⟩) hm
theorem t_inLS [B : Bd X Γ N sc] {s : Str} {ss : List Str} (ha : EvD X F a δ (.str s)) (hb : EvD X F b δ (.lst (ss.map .str))) (hm : behindInMarks .In b = false := by rfl) : EtD X F (.Compare a [.In] [b] pos) δ (decide (s ∈ ss)) := t_cmp op_in_seq ha hb (fun m F1 H vx vy Q s0 s1 rx ry k => by
  cases rx
  cases ry with
  | lst hp ra =>
    have := ra.strs ss
    subst this
    exact ⟨_, _, rfl, .inl (SqL.of (s1.sub _ _ hp)), rfl, flat_strs ss, k _ F1 H (.refl s1) (by rw [inV_strs]; exact .bl _)⟩) hm
theorem t_notInLS [B : Bd X Γ N sc] {s : Str} {ss : List Str} (ha : EvD X F a δ (.str s)) (hb : EvD X F b δ (.lst (ss.map .str))) (hm : behindInMarks .NotIn b = false := by rfl) : EtD X F (.Compare a [.NotIn] [b] pos) δ (!decide (s ∈ ss)) := t_cmp op_notIn_seq ha hb (fun m F1 H vx vy Q s0 s1 rx ry k => by
  cases rx
  cases ry with
  | lst hp ra =>
    have := ra.strs ss
    subst this
    exact ⟨_, _, rfl, .inl (SqL.of (s1.sub _ _ hp)), rfl, flat_strs ss, k _ F1 H (.refl s1) (by
      show Rep F1 (.bl (if true = true then !inV (.str s) (ss.map V.str) else inV (.str s) (ss.map V.str))) _
      rw [if_pos rfl, inV_strs]; exact .bl _)⟩) hm
/-! ### slices -/
inductive EoD (X : Cx) (F : Hp) (δ : Sl) : Option Expr → Option Int → Prop
  | none : EoD X F δ none none
  | some {e : Expr} {i : Int} (h : EvD X F e δ (.int i)) : EoD X F δ (some e) (some i)
def WO (X : Cx) (eo : Option Expr) : TO := fun σ H Q => Sh (∀ pins s, Inv X pins σ H s → wpAny (model X.prog X.w) X.A (evalPart eo X.env) (fun u s' => ∃ o H', Inv X pins σ H' s' ∧ IsPart u o ∧ Q o H') X.xe s)
theorem po {X : Cx} {eo : Option Expr} : PO X eo (WO X eo) := ⟨fun pins s _ _ _ I h => h.go pins s I⟩
theorem EoD.run {eo : Option Expr} {o : Option Int} (h : EoD X F δ eo o) {F1 H : Hp} {σ : L2.St} {Q : Option Int → Hp → Prop} (s : Same F F1) (c : Ctx F1 H σ δ) (k : ∀ F' H', Ex δ.m F1 H F' H' → Q o H') : WO X eo σ H Q := by
  cases h with
  | none => exact ⟨fun pins s I => po_none.run pins s σ H Q I (k F1 H (.refl c.st))⟩
  | some h => exact ⟨fun pins s' I => (po_some pe).run pins s' σ H Q I (h F1 H σ _ s c fun v F' H' e r => ⟨_, by cases r; rfl, k F' H' e⟩)⟩
def cutD (xs : List Dt) (lo hi : Option Int) : List Dt := (xs.drop (HT.sIx xs.length 0 lo)).take (HT.sIx xs.length xs.length hi - HT.sIx xs.length 0 lo)
theorem cut_rep {F1 : Hp} {xs : List V} (r : RepA F1 xs ds) (lo hi : Option Int) : RepA F1 (cutV xs lo hi) (cutD ds lo hi) := by
  unfold cutV cutD
  rw [r.length]
  exact RepA.take _ (RepA.drop _ r)
theorem d_slice {r : V → Option Int → Option Int → Hp → VK → Prop} {lo hi : Option Expr} {l u : Option Int} (hr : SlR X r) (ha : EvD X F a δ x) (hl : EoD X F δ lo l) (hu : EoD X F δ hi u)
    (h : ∀ (m : Mm) (F1 H : Hp) (v : V) (Q : VK), Same F F1 → Sta F1 H m → Rep F1 v x → (∀ v F' H', Ex m F1 H F' H' → Rep F' v z → Q v H') → r v l u H Q) : EvD X F (.Subscript a (.Slice lo hi none p2) pos) δ z := fun F1 H σ Q s c k =>
  we (pe_slice hr pe po po) (ha F1 H σ _ s c fun v F2 H2 e2 r2 => hl.run (s.trans e2.ff) (c.ext e2) fun F3 H3 e3 => hu.run ((s.trans e2.ff).trans e3.ff) ((c.ext e2).ext e3) fun F4 H4 e4 =>
    h δ.m F4 H4 v Q (((s.trans e2.ff).trans e3.ff).trans e4.ff) e4.st ((r2.mono e3.ff).mono e4.ff) fun w F5 H5 e5 r5 => k w F5 H5 (((e2.trans e3).trans e4).trans e5) r5)
theorem d_sliceL {lo hi : Option Expr} {l u : Option Int} (ha : EvD X F a δ (.lst ds)) (hl : EoD X F δ lo l) (hu : EoD X F δ hi u) : EvD X F (.Subscript a (.Slice lo hi none p2) pos) δ (.lst (cutD ds l u)) := d_slice sl_list ha hl hu fun m F1 H v Q s st r k => by
  cases r with
  | lst hp ra => exact ⟨_, _, rfl, SqL.of (st.sub _ _ hp), fun q hq => k _ _ _ (.mk1 st hq _) (.lst upd_same ((cut_rep ra l u).mono (Ext.mk1 st hq _).ff))⟩
theorem d_sliceS {lo hi : Option Expr} {l u : Option Int} {t : Str} (ha : EvD X F a δ (.str t)) (hl : EoD X F δ lo l) (hu : EoD X F δ hi u) (hz : t.length ≤ sizeLine) : EvD X F (.Subscript a (.Slice lo hi none p2) pos) δ (.str (cutS t l u)) := d_slice sl_str ha hl hu fun m F1 H v Q s st r k => by
  cases r
  exact ⟨t, rfl, hz, k _ F1 H (.refl st) (.str _)⟩
theorem d_sliceT {lo hi : Option Expr} {l u : Option Int} (ha : EvD X F a δ (.tup ds)) (hl : EoD X F δ lo l) (hu : EoD X F δ hi u) : EvD X F (.Subscript a (.Slice lo hi none p2) pos) δ (.tup (cutD ds l u)) := d_slice sl_tupA ha hl hu fun m F1 H v Q s st r k => by
  cases r with
  | tup hp ra =>
    refine ⟨_, _, rfl, SqT.of (st.sub _ _ hp), fun h => ?_, fun _ q hq => k _ _ _ (.mk1 st hq _) (.tup upd_same ((cut_rep ra l u).mono (Ext.mk1 st hq _).ff))⟩
    refine k _ F1 H (.refl st) ?_
    have : cutD ds l u = ds := by
      unfold cutD
      rw [ra.length] at h
      rw [h.1, h.2]
      simp
    rw [this]
    exact .tup hp ra
/-- a list that may change, cut -/
theorem d_sliceC [B : Bd X Γ N sc] (j : Nat) {lo hi : Option Expr} {l u : Option Int} (hj : δ.m[j]? = some (q, .lst ds)) (ha : EvD X F a δ (.ref q)) (hl : EoD X F δ lo l) (hu : EoD X F δ hi u) : EvD X F (.Subscript a (.Slice lo hi none p2) pos) δ (.lst (cutD ds l u)) := fun F1 H σ Q s c k =>
  we (pe_slice sl_list pe po po) (ha F1 H σ _ s c fun v F2 H2 e2 r2 => hl.run (s.trans e2.ff) (c.ext e2) fun F3 H3 e3 => hu.run ((s.trans e2.ff).trans e3.ff) ((c.ext e2).ext e3) fun F4 H4 e4 => by
    cases r2
    obtain ⟨xs, h1, h2⟩ := e4.st.lst hj
    exact ⟨_, xs, rfl, SqL.of h1, fun p hp => k _ _ _ (((e2.trans e3).trans e4).trans (.mk1 e4.st hp _)) (.lst upd_same ((cut_rep h2 l u).mono (Ext.mk1 e4.st hp _).ff))⟩)
theorem d_tupL [B : Bd X Γ N sc] (hm : Γ.mg "tuple" = none) (h : EvD X F e δ (.lst ds)) (hg : glB sc "tuple" = true := by decide +kernel) (he : starEach [e] X.env = (false, eval e X.env) :: starEach [] X.env := by first | exact plSt | rfl) :
    EvD X F (.Call (.Name "tuple" p) [e] [] pos) δ (.tup ds) := d_bt call_tuple_of hm (by decide +kernel) (a_one h he) (rc_one fun m F1 H v Q s s1 r q => by
  cases r with
  | lst hp ra => exact ⟨_, _, rfl, .inl ⟨SqL.of (s1.sub _ _ hp), fun l hl => q _ _ _ (.mk1 s1 hl _) (.tup upd_same (ra.mono (Ext.mk1 s1 hl _).ff))⟩⟩) hg he pl0
/-! ### texts -/
theorem d_strI [B : Bd X Γ N sc] {i : Int} (hm : Γ.mg "str" = none) (h : EvD X F e δ (.int i)) (hz : i.natAbs.log2 < 1920) (hg : glB sc "str" = true := by decide +kernel) (he : starEach [e] X.env = (false, eval e X.env) :: starEach [] X.env := by first | exact plSt | rfl) :
    EvD X F (.Call (.Name "str" p) [e] [] pos) δ (.str (toString i : String)) := d_bt call_str_int hm (by decide +kernel) (a_one h he) (rc_one fun m F1 H v Q s s1 r q => by
  cases r
  exact ⟨i, rfl, hz, q _ F1 H (.refl s1) (.str _)⟩) hg he pl0
theorem d_intS [B : Bd X Γ N sc] {t : Str} {i : Int} (hm : Γ.mg "int" = none) (h : EvD X F e δ (.str t)) (hi : PySem.intText? t = some i) (hz : t.length ≤ 640) (hg : glB sc "int" = true := by decide +kernel) (he : starEach [e] X.env = (false, eval e X.env) :: starEach [] X.env := by first | exact plSt | rfl) :
    EvD X F (.Call (.Name "int" p) [e] [] pos) δ (.int i) := d_bt call_int_str hm (by decide +kernel) (a_one h he) (rc_one fun m F1 H v Q s s1 r q => by
  cases r
  exact ⟨t, i, rfl, hi, hz, q _ F1 H (.refl s1) (.int _)⟩) hg he pl0
theorem foldl_rep (c : Nat) : ∀ (k : Nat) (acc : Array Nat), (List.replicate k (#[c] : Array Nat)).foldl (· ++ ·) acc = acc ++ (List.replicate k c).toArray
  | 0, acc => by simp
  | k + 1, acc => by
    rw [List.replicate_succ, List.foldl_cons, foldl_rep c k, List.replicate_succ]
    apply Array.ext'
    simp
theorem op_repS {c : Nat} : OpR X (binaryOp .Mult) (fun x y H Q => ∃ k : Nat, x = .str ⟨#[c]⟩ ∧ y = .int k ∧ k ≤ 1000 ∧ Q (.str ⟨(List.replicate k c).toArray⟩) H) := by
  intro pins s σ H x y v u Q I rx ry h
  obtain ⟨k, rfl, rfl, hk, q⟩ := h
  obtain ⟨t, rfl⟩ := rx
  obtain ⟨t', rfl⟩ := ry
  refine PySem.P.mul_str ?_ (fun _ _ => ?_) (fun _ _ => ?_) ?_
  · rw [decide_eq_false (by omega), decide_eq_false (by omega)]; rfl
  · show ¬ ((1 : Nat) : Int) > _
    by_cases h0 : k = 0
    · subst h0; omega
    · have h1 : (0 : Int) < (k : Int) := by omega
      intro h
      have : (2 ^ 63 - 1) / (k : Int) ≥ 1 := by
        apply Int.le_ediv_of_mul_le h1
        omega
      omega
  · show Builtin.Str.tooLong (1 * (k : Int).toNat) = false
    rw [Int.toNat_natCast, Nat.one_mul]
    unfold Builtin.Str.tooLong
    exact decide_eq_false (by simp [sizeLine]; omega)
  · by_cases h0 : (k : Int) < 1
    · rw [if_pos h0]
      have : k = 0 := by omega
      subst this
      exact ⟨by decide, .str _, H, I.tok _, ⟨_, rfl⟩, q⟩
    · rw [if_neg h0]
      by_cases h1 : k = 1
      · subst h1
        show Made.post (Made.val (Value.str ⟨#[c]⟩ t)) (EP X pins σ Q) s
        exact ⟨.str _, H, I, ⟨_, rfl⟩, q⟩
      · have h2 : ((k : Int) == 1 || (⟨#[c]⟩ : Str).length == 0) = false := by
          have : ((k : Int) == 1) = false := by
            rw [beq_eq_false_iff_ne]; omega
          rw [this]; rfl
        rw [if_neg (by rw [h2]; exact Bool.false_ne_true)]
        rw [Int.toNat_natCast, foldl_rep]
        refine ⟨?_, .str ⟨(List.replicate k c).toArray⟩, H, I.tok _, ⟨s.toks, by simp⟩, q⟩
        simp [Str.length, sizeLine]
        omega
theorem d_repS {c k : Nat} (ha : EvD X F a δ (.str ⟨#[c]⟩)) (hb : EvD X F b δ (.int (k : Nat))) (hk : k ≤ 1000) : EvD X F (.BinOp a .Mult b pos) δ (.str ⟨(List.replicate k c).toArray⟩) := d_op op_repS ha hb fun m F1 H vx vy Q s s1 rx ry kk => by
  cases rx; cases ry
  exact ⟨k, rfl, rfl, hk, kk _ F1 H (.refl s1) (.str _)⟩
/-! ### sorted, of signs -/
def insN (a : Nat) : List Nat → List Nat
  | [] => [a]
  | b :: r => if a ≤ b then a :: b :: r else b :: insN a r
def sortN : List Nat → List Nat
  | [] => []
  | a :: r => insN a (sortN r)
theorem insN_perm (a : Nat) : ∀ l : List Nat, (insN a l).Perm (a :: l)
  | [] => List.Perm.refl _
  | b :: r => by
    unfold insN
    split
    · exact List.Perm.refl _
    · exact ((insN_perm a r).cons b).trans (List.Perm.swap a b r)
theorem sortN_perm : ∀ l : List Nat, (sortN l).Perm l
  | [] => List.Perm.refl _
  | a :: r => (insN_perm a _).trans ((sortN_perm r).cons a)
theorem insN_sorted (a : Nat) : ∀ l : List Nat, l.Pairwise (· ≤ ·) → (insN a l).Pairwise (· ≤ ·)
  | [], _ => List.pairwise_singleton _ _
  | b :: r, h => by
    unfold insN
    rw [List.pairwise_cons] at h
    split
    · rename_i hab
      refine List.pairwise_cons.mpr ⟨fun c hc => ?_, List.pairwise_cons.mpr h⟩
      rcases List.mem_cons.mp hc with rfl | hc
      · exact hab
      · exact Nat.le_trans hab (h.1 c hc)
    · rename_i hab
      refine List.pairwise_cons.mpr ⟨fun c hc => ?_, insN_sorted a r h.2⟩
      rcases List.mem_cons.mp ((insN_perm a r).mem_iff.mp hc) with rfl | hc
      · omega
      · exact h.1 c hc
theorem perm_sorted : ∀ {l l' : List Nat}, l.Perm l' → l.Pairwise (· ≤ ·) → l'.Pairwise (· ≤ ·) → l = l' := fun {l l'} h h1 h2 =>
  List.Perm.eq_of_pairwise (fun a b _ _ x y => Nat.le_antisymm x y) h1 h2 h
theorem sortN_sorted : ∀ l : List Nat, (sortN l).Pairwise (· ≤ ·)
  | [] => List.Pairwise.nil
  | a :: r => insN_sorted a _ (sortN_sorted r)
theorem rising_signs : ∀ (c : Nat) (l : List Nat), risingS (sg c) (l.map sg) = true → (c :: l).Pairwise (· ≤ ·)
  | c, [], _ => List.pairwise_singleton _ _
  | c, b :: l, h => by
    rw [List.map_cons, risingS, Bool.and_eq_true] at h
    have ih := rising_signs b l h.2
    have hcb : c ≤ b := by
      have h1 : ltCps [b] [c] = false := by
        have := h.1
        rw [Bool.not_eq_true'] at this
        exact this
      by_cases hh : c ≤ b
      · exact hh
      · exfalso
        have : ltCps [b] [c] = true := by
          unfold ltCps
          simp
          omega
        rw [this] at h1
        cases h1
    rw [List.pairwise_cons] at ih
    refine List.pairwise_cons.mpr ⟨fun x hx => ?_, List.pairwise_cons.mpr ih⟩
    rcases List.mem_cons.mp hx with rfl | hx
    · exact hcb
    · exact Nat.le_trans hcb (ih.1 x hx)
theorem sorted_signs {l : List Nat} (h : sortedS (l.map sg) = true) : l.Pairwise (· ≤ ·) := by
  cases l with
  | nil => exact List.Pairwise.nil
  | cons c l => exact rising_signs c l h
theorem d_sortedS [B : Bd X Γ N sc] {l : List Nat} (hm : Γ.mg "sorted" = none) (h : EvD X F e δ (.lst (l.map fun c => .str (sg c)))) (hz : l.length < 64) (hg : glB sc "sorted" = true := by decide +kernel) (he : starEach [e] X.env = (false, eval e X.env) :: starEach [] X.env := by first | exact plSt | rfl) :
    EvD X F (.Call (.Name "sorted" p) [e] [] pos) δ (.lst ((sortN l).map fun c => .str (sg c))) := d_bf cr_sortedS hm (by decide +kernel) (a_one h he) (rc_one fun m F1 H v Q s s1 r q => by
  cases r with
  | lst hp ra =>
    have e1 : (l.map fun c => Dt.str (sg c)) = (l.map sg).map Dt.str := by rw [List.map_map]; rfl
    rw [e1] at ra
    have := ra.strs (l.map sg)
    subst this
    refine ⟨_, l.map sg, rfl, SqL.of (s1.sub _ _ hp), by rw [List.length_map]; exact hz, fun ys p hperm hs hp' => ?_⟩
    obtain ⟨l', hl'⟩ : ∃ l' : List Nat, ys = l'.map sg := by
      refine ⟨ys.map fun t => t.cps.toList.headD 0, ?_⟩
      rw [List.map_map]
      have : ∀ t ∈ ys, (sg ∘ fun t => t.cps.toList.headD 0) t = t := fun t ht => by
        obtain ⟨c, _, rfl⟩ := List.mem_map.mp (hperm.mem_iff.mp ht)
        rfl
      exact (List.map_id ys).symm.trans (List.map_congr_left fun t ht => (this t ht).symm)
    subst hl'
    have hp2 : l'.Perm l := by
      have := hperm.map (fun t : Str => t.cps.toList.headD 0)
      rw [List.map_map, List.map_map] at this
      have e2 : ((fun t : Str => t.cps.toList.headD 0) ∘ sg) = id := by funext c; rfl
      rw [e2, List.map_id, List.map_id] at this
      exact this
    have : l' = sortN l := perm_sorted (hp2.trans (sortN_perm l).symm) (sorted_signs hs) (sortN_sorted l)
    subst this
    refine q _ _ _ (.mk1 s1 hp' _) (.lst upd_same ?_)
    have := RepA.ofStrs (F := upd F1 p (.lst (((sortN l).map sg).map V.str))) ((sortN l).map sg)
    rw [show ((sortN l).map sg).map Dt.str = (sortN l).map fun c => .str (sg c) by rw [List.map_map]; rfl] at this
    exact this) hg he pl0
end
end G

set_option Elab.async false
set_option linter.all false
set_option maxRecDepth 100000
set_option maxHeartbeats 4000000
/-! Parts as plain data of Lean, and as the program's data. -/
namespace G
open PySem PySem.Spec PyProof.Rows L2
/-! the kinds' words differ -/
@[simp] theorem wn_sign_span : (("sign" : Str) = "span") = False := eq_false (by decide +kernel)
@[simp] theorem wn_sign_any : (("sign" : Str) = "any") = False := eq_false (by decide +kernel)
@[simp] theorem wn_sign_row : (("sign" : Str) = "row") = False := eq_false (by decide +kernel)
@[simp] theorem wn_sign_or : (("sign" : Str) = "or") = False := eq_false (by decide +kernel)
@[simp] theorem wn_sign_many : (("sign" : Str) = "many") = False := eq_false (by decide +kernel)
@[simp] theorem wn_sign_not : (("sign" : Str) = "not") = False := eq_false (by decide +kernel)
@[simp] theorem wn_sign_rule : (("sign" : Str) = "rule") = False := eq_false (by decide +kernel)
@[simp] theorem wn_span_sign : (("span" : Str) = "sign") = False := eq_false (by decide +kernel)
@[simp] theorem wn_span_any : (("span" : Str) = "any") = False := eq_false (by decide +kernel)
@[simp] theorem wn_span_row : (("span" : Str) = "row") = False := eq_false (by decide +kernel)
@[simp] theorem wn_span_or : (("span" : Str) = "or") = False := eq_false (by decide +kernel)
@[simp] theorem wn_span_many : (("span" : Str) = "many") = False := eq_false (by decide +kernel)
@[simp] theorem wn_span_not : (("span" : Str) = "not") = False := eq_false (by decide +kernel)
@[simp] theorem wn_span_rule : (("span" : Str) = "rule") = False := eq_false (by decide +kernel)
@[simp] theorem wn_any_sign : (("any" : Str) = "sign") = False := eq_false (by decide +kernel)
@[simp] theorem wn_any_span : (("any" : Str) = "span") = False := eq_false (by decide +kernel)
@[simp] theorem wn_any_row : (("any" : Str) = "row") = False := eq_false (by decide +kernel)
@[simp] theorem wn_any_or : (("any" : Str) = "or") = False := eq_false (by decide +kernel)
@[simp] theorem wn_any_many : (("any" : Str) = "many") = False := eq_false (by decide +kernel)
@[simp] theorem wn_any_not : (("any" : Str) = "not") = False := eq_false (by decide +kernel)
@[simp] theorem wn_any_rule : (("any" : Str) = "rule") = False := eq_false (by decide +kernel)
@[simp] theorem wn_row_sign : (("row" : Str) = "sign") = False := eq_false (by decide +kernel)
@[simp] theorem wn_row_span : (("row" : Str) = "span") = False := eq_false (by decide +kernel)
@[simp] theorem wn_row_any : (("row" : Str) = "any") = False := eq_false (by decide +kernel)
@[simp] theorem wn_row_or : (("row" : Str) = "or") = False := eq_false (by decide +kernel)
@[simp] theorem wn_row_many : (("row" : Str) = "many") = False := eq_false (by decide +kernel)
@[simp] theorem wn_row_not : (("row" : Str) = "not") = False := eq_false (by decide +kernel)
@[simp] theorem wn_row_rule : (("row" : Str) = "rule") = False := eq_false (by decide +kernel)
@[simp] theorem wn_or_sign : (("or" : Str) = "sign") = False := eq_false (by decide +kernel)
@[simp] theorem wn_or_span : (("or" : Str) = "span") = False := eq_false (by decide +kernel)
@[simp] theorem wn_or_any : (("or" : Str) = "any") = False := eq_false (by decide +kernel)
@[simp] theorem wn_or_row : (("or" : Str) = "row") = False := eq_false (by decide +kernel)
@[simp] theorem wn_or_many : (("or" : Str) = "many") = False := eq_false (by decide +kernel)
@[simp] theorem wn_or_not : (("or" : Str) = "not") = False := eq_false (by decide +kernel)
@[simp] theorem wn_or_rule : (("or" : Str) = "rule") = False := eq_false (by decide +kernel)
@[simp] theorem wn_many_sign : (("many" : Str) = "sign") = False := eq_false (by decide +kernel)
@[simp] theorem wn_many_span : (("many" : Str) = "span") = False := eq_false (by decide +kernel)
@[simp] theorem wn_many_any : (("many" : Str) = "any") = False := eq_false (by decide +kernel)
@[simp] theorem wn_many_row : (("many" : Str) = "row") = False := eq_false (by decide +kernel)
@[simp] theorem wn_many_or : (("many" : Str) = "or") = False := eq_false (by decide +kernel)
@[simp] theorem wn_many_not : (("many" : Str) = "not") = False := eq_false (by decide +kernel)
@[simp] theorem wn_many_rule : (("many" : Str) = "rule") = False := eq_false (by decide +kernel)
@[simp] theorem wn_not_sign : (("not" : Str) = "sign") = False := eq_false (by decide +kernel)
@[simp] theorem wn_not_span : (("not" : Str) = "span") = False := eq_false (by decide +kernel)
@[simp] theorem wn_not_any : (("not" : Str) = "any") = False := eq_false (by decide +kernel)
@[simp] theorem wn_not_row : (("not" : Str) = "row") = False := eq_false (by decide +kernel)
@[simp] theorem wn_not_or : (("not" : Str) = "or") = False := eq_false (by decide +kernel)
@[simp] theorem wn_not_many : (("not" : Str) = "many") = False := eq_false (by decide +kernel)
@[simp] theorem wn_not_rule : (("not" : Str) = "rule") = False := eq_false (by decide +kernel)
@[simp] theorem wn_rule_sign : (("rule" : Str) = "sign") = False := eq_false (by decide +kernel)
@[simp] theorem wn_rule_span : (("rule" : Str) = "span") = False := eq_false (by decide +kernel)
@[simp] theorem wn_rule_any : (("rule" : Str) = "any") = False := eq_false (by decide +kernel)
@[simp] theorem wn_rule_row : (("rule" : Str) = "row") = False := eq_false (by decide +kernel)
@[simp] theorem wn_rule_or : (("rule" : Str) = "or") = False := eq_false (by decide +kernel)
@[simp] theorem wn_rule_many : (("rule" : Str) = "many") = False := eq_false (by decide +kernel)
@[simp] theorem wn_rule_not : (("rule" : Str) = "not") = False := eq_false (by decide +kernel)
inductive Part where
  | sign (c : Nat) | span (a b : Nat) | any | row (ps : List Part) | or (ps : List Part) | many (p : Part) | not (p : Part) | rule (s : Str)
namespace Part
mutual
def dt : Part → Dt
  | .sign c => .tup [.str "sign", .str (sg c)]
  | .span a b => .tup [.str "span", .str (sg a), .str (sg b)]
  | .any => .tup [.str "any"]
  | .row ps => .tup [.str "row", .tup (dts ps)]
  | .or ps => .tup [.str "or", .tup (dts ps)]
  | .many p => .tup [.str "many", p.dt]
  | .not p => .tup [.str "not", p.dt]
  | .rule s => .tup [.str "rule", .str s]
def dts : List Part → List Dt
  | [] => []
  | p :: ps => p.dt :: dts ps
end
theorem dts_map : ∀ ps : List Part, dts ps = ps.map dt
  | [] => rfl
  | p :: ps => by rw [dts, dts_map ps]; rfl
mutual
def deep : Part → Nat
  | .row ps => deeps ps + 1
  | .or ps => deeps ps + 1
  | .many p => p.deep + 1
  | .not p => p.deep + 1
  | _ => 1
def deeps : List Part → Nat
  | [] => 0
  | p :: ps => max p.deep (deeps ps)
end
theorem deep_pos (p : Part) : 0 < p.deep := by cases p <;> simp [deep]
theorem deep_mem {p : Part} : ∀ {ps : List Part}, p ∈ ps → p.deep ≤ deeps ps
  | _ :: _, .head _ => by rw [deeps]; exact Nat.le_max_left _ _
  | _ :: _, .tail _ h => by rw [deeps]; exact Nat.le_trans (deep_mem h) (Nat.le_max_right _ _)
/-- the parts right within -/
def subs : Part → List Part
  | .row ps => ps
  | .or ps => ps
  | .many p => [p]
  | .not p => [p]
  | _ => []
theorem deep_subs {p q : Part} (h : q ∈ p.subs) : q.deep < p.deep := by
  cases p <;> simp only [subs, List.mem_nil_iff, List.mem_singleton, List.not_mem_nil] at h
  · exact Nat.lt_succ_of_le (deep_mem h)
  · exact Nat.lt_succ_of_le (deep_mem h)
  · subst h; exact Nat.lt_succ_self _
  · subst h; exact Nat.lt_succ_self _
mutual
/-- how many parts -/
def size : Part → Nat
  | .row ps => sizes ps + 1
  | .or ps => sizes ps + 1
  | .many p => p.size + 1
  | .not p => p.size + 1
  | _ => 1
def sizes : List Part → Nat
  | [] => 0
  | p :: ps => p.size + sizes ps
end
theorem size_pos (p : Part) : 0 < p.size := by cases p <;> simp [size]
theorem size_mem {p : Part} : ∀ {ps : List Part}, p ∈ ps → p.size ≤ sizes ps
  | _ :: _, .head _ => by rw [sizes]; omega
  | _ :: _, .tail _ h => by rw [sizes]; have := size_mem h; omega
theorem sizes_eq : ∀ ps : List Part, sizes ps = (ps.map size).sum
  | [] => rfl
  | p :: ps => by rw [sizes, sizes_eq ps]; rfl
theorem length_le_sizes : ∀ ps : List Part, ps.length ≤ sizes ps
  | [] => Nat.le_refl _
  | p :: ps => by rw [sizes]; have := length_le_sizes ps; have := size_pos p; simp only [List.length_cons]; omega
mutual
/-- the rules asked, at whatever depth -/
def rules : Part → List Str
  | .rule s => [s]
  | .row ps => ruless ps
  | .or ps => ruless ps
  | .many p => p.rules
  | .not p => p.rules
  | _ => []
def ruless : List Part → List Str
  | [] => []
  | p :: ps => p.rules ++ ruless ps
end
theorem ruless_eq : ∀ ps : List Part, ruless ps = ps.flatMap rules
  | [] => rfl
  | p :: ps => by rw [ruless, ruless_eq ps]; rfl
mutual
theorem rules_le : ∀ p : Part, p.rules.length ≤ p.size
  | .rule s => Nat.le_refl _
  | .row ps => Nat.le_succ_of_le (ruless_le ps)
  | .or ps => Nat.le_succ_of_le (ruless_le ps)
  | .many p => Nat.le_succ_of_le (rules_le p)
  | .not p => Nat.le_succ_of_le (rules_le p)
  | .sign _ => Nat.zero_le _
  | .span _ _ => Nat.zero_le _
  | .any => Nat.zero_le _
theorem ruless_le : ∀ ps : List Part, (ruless ps).length ≤ sizes ps
  | [] => Nat.le_refl _
  | p :: ps => by
    rw [ruless, sizes, List.length_append]
    have := rules_le p
    have := ruless_le ps
    omega
end
mutual
/-- may it be empty, where the rules of E may -/
def may (E : Str → Bool) : Part → Bool
  | .many _ => true
  | .not _ => true
  | .row ps => mayAll E ps
  | .or ps => mayAny E ps
  | .rule s => E s
  | _ => false
def mayAll (E : Str → Bool) : List Part → Bool
  | [] => true
  | p :: ps => may E p && mayAll E ps
def mayAny (E : Str → Bool) : List Part → Bool
  | [] => false
  | p :: ps => may E p || mayAny E ps
end
theorem mayAll_eq (E : Str → Bool) : ∀ ps : List Part, mayAll E ps = ps.all (may E)
  | [] => rfl
  | p :: ps => by rw [mayAll, mayAll_eq E ps]; rfl
theorem mayAny_eq (E : Str → Bool) : ∀ ps : List Part, mayAny E ps = ps.any (may E)
  | [] => rfl
  | p :: ps => by rw [mayAny, mayAny_eq E ps]; rfl
mutual
/-- the rules asked ahead of any sign -/
def ahead (E : Str → Bool) : Part → List Str
  | .rule s => [s]
  | .row ps => aheadRow E ps
  | .or ps => aheadOr E ps
  | .many p => ahead E p
  | .not p => ahead E p
  | _ => []
def aheadRow (E : Str → Bool) : List Part → List Str
  | [] => []
  | p :: ps => ahead E p ++ (if may E p = true then aheadRow E ps else [])
def aheadOr (E : Str → Bool) : List Part → List Str
  | [] => []
  | p :: ps => ahead E p ++ aheadOr E ps
end
mutual
theorem ahead_le (E : Str → Bool) : ∀ p : Part, (p.ahead E).length ≤ p.size
  | .rule s => Nat.le_refl _
  | .row ps => Nat.le_succ_of_le (aheadRow_le E ps)
  | .or ps => Nat.le_succ_of_le (aheadOr_le E ps)
  | .many p => Nat.le_succ_of_le (ahead_le E p)
  | .not p => Nat.le_succ_of_le (ahead_le E p)
  | .sign _ => Nat.zero_le _
  | .span _ _ => Nat.zero_le _
  | .any => Nat.zero_le _
theorem aheadRow_le (E : Str → Bool) : ∀ ps : List Part, (aheadRow E ps).length ≤ sizes ps
  | [] => Nat.le_refl _
  | p :: ps => by
    rw [aheadRow, sizes, List.length_append]
    have h1 := ahead_le E p
    have h2 := aheadRow_le E ps
    split
    · omega
    · simp only [List.length_nil]; omega
theorem aheadOr_le (E : Str → Bool) : ∀ ps : List Part, (aheadOr E ps).length ≤ sizes ps
  | [] => Nat.le_refl _
  | p :: ps => by
    rw [aheadOr, sizes, List.length_append]
    have h1 := ahead_le E p
    have h2 := aheadOr_le E ps
    omega
end
end Part
/-! ### the form of a part, upon any data -/
mutual
def okD : Dt → Bool
  | .str s => decide (s.length ≤ 100000)
  | .ref _ => false
  | .ty _ => false
  | .lst ds => okDs ds && decide (ds.length ≤ 100000)
  | .tup ds => okDs ds && decide (ds.length ≤ 100000)
  | _ => true
def okDs : List Dt → Bool
  | [] => true
  | d :: ds => okD d && okDs ds
end
theorem okDs_all : ∀ ds : List Dt, okDs ds = ds.all okD
  | [] => rfl
  | d :: ds => by rw [okDs, okDs_all ds]; rfl
theorem okD_pl1 {d : Dt} (h : okD d = true) : pl1 d = true := by cases d <;> first | rfl | (simp [okD] at h)
theorem okD_mem {d : Dt} {ds : List Dt} (h : okDs ds = true) (hm : d ∈ ds) : okD d = true := by rw [okDs_all] at h; exact List.all_eq_true.mp h d hm
def isSignD : Dt → Bool
  | .str s => (match s.cps.toList with
    | [c] => decide (c ∈ codes)
    | _ => false)
  | _ => false
def isNameD : Dt → Bool
  | .str s => decide (1 ≤ s.length) && decide (s.length ≤ 12) && s.cps.toList.all fun c => decide (c ∈ lettersS.cps.toList)
  | _ => false
def leD : Dt → Dt → Bool
  | .str s, .str t => !decide (t.cps.toList < s.cps.toList)
  | _, _ => false
def isLeafD (h : Str) (r : List Dt) : Bool :=
  if h = "any" then r.length == 0
  else if h = "sign" then (match r with
    | [x] => isSignD x
    | _ => false)
  else if h = "span" then (match r with
    | [x, y] => isSignD x && isSignD y && leD x y
    | _ => false)
  else decide (h = "rule") && (match r with
    | [.str _] => true
    | _ => false)
def isPartD : Nat → Dt → Bool
  | 0, _ => false
  | n + 1, .tup (.str h :: r) =>
    if h = "row" ∨ h = "or" then (match r with
      | [.tup ds] => !(decide (h = "or") && ds.isEmpty) && ds.all (isPartD n)
      | _ => false)
    else if h = "many" ∨ h = "not" then (match r with
      | [x] => isPartD n x
      | _ => false)
    else isLeafD h r
  | _ + 1, _ => false
namespace Part
mutual
/-- a part as it should be (but for its depth) -/
def good : Part → Bool
  | .sign c => decide (c ∈ codes)
  | .span a b => decide (a ∈ codes) && decide (b ∈ codes) && decide (a ≤ b)
  | .any => true
  | .row ps => goods ps
  | .or ps => !ps.isEmpty && goods ps
  | .many p => p.good
  | .not p => p.good
  | .rule s => true
def goods : List Part → Bool
  | [] => true
  | p :: ps => p.good && goods ps
end
theorem goods_mem {p : Part} : ∀ {ps : List Part}, goods ps = true → p ∈ ps → p.good = true
  | _ :: _, h, .head _ => by rw [goods, Bool.and_eq_true] at h; exact h.1
  | _ :: _, h, .tail _ q => by rw [goods, Bool.and_eq_true] at h; exact goods_mem h.2 q
theorem isSign_sg {c : Nat} : isSignD (.str (sg c)) = decide (c ∈ codes) := rfl
theorem isPart_dt : ∀ (n : Nat) (p : Part), p.good = true → p.deep ≤ n → isPartD n p.dt = true
  | 0, p, _, h => by have := deep_pos p; omega
  | n + 1, p, hg, hd => by
    cases p with
    | sign c => simp only [dt, isPartD, isLeafD]; simp [isSign_sg]; simpa [good] using hg
    | span a b =>
      simp only [good, Bool.and_eq_true, decide_eq_true_eq] at hg
      simp only [dt, isPartD, isLeafD]
      have q : leD (.str (sg a)) (.str (sg b)) = true := by
        show (!decide ((sg b).cps.toList < (sg a).cps.toList)) = true
        rw [sg_lt]
        simpa using hg.2
      simp [isSign_sg, hg.1.1, hg.1.2, q]
    | any => simp [dt, isPartD, isLeafD]
    | row ps =>
      simp only [dt, isPartD]
      simp only [good] at hg
      simp only [deep] at hd
      simp [dts_map]
      exact fun q hq => isPart_dt n q (goods_mem hg hq) (by have := deep_mem hq; omega)
    | or ps =>
      simp only [dt, isPartD]
      simp only [good, Bool.and_eq_true] at hg
      simp only [deep] at hd
      simp [dts_map]
      refine ⟨by simpa using hg.1, fun q hq => isPart_dt n q (goods_mem hg.2 hq) (by have := deep_mem hq; omega)⟩
    | many p =>
      simp only [dt, isPartD]
      simp only [good] at hg
      simp only [deep] at hd
      simp
      exact isPart_dt n p hg (by omega)
    | not p =>
      simp only [dt, isPartD]
      simp only [good] at hg
      simp only [deep] at hd
      simp
      exact isPart_dt n p hg (by omega)
    | rule s => simp [dt, isPartD, isLeafD]
end Part
end G

set_option Elab.async false
set_option linter.all false
set_option maxRecDepth 100000
set_option maxHeartbeats 4000000
/-! Rules that may be empty, as plain lists of Lean. -/
namespace G
open PySem PySem.Spec PyProof.Rows L2
abbrev Rules := List (Str × Part)
def memB (E : List Str) (s : Str) : Bool := decide (s ∈ E)
mutual
theorem may_mono {E E' : Str → Bool} (h : ∀ s, E s = true → E' s = true) : ∀ p : Part, p.may E = true → p.may E' = true
  | .many _, _ => by simp [Part.may]
  | .not _, _ => by simp [Part.may]
  | .row ps, q => by rw [Part.may] at q ⊢; exact mayAll_mono h ps q
  | .or ps, q => by rw [Part.may] at q ⊢; exact mayAny_mono h ps q
  | .rule s, q => by rw [Part.may] at q ⊢; exact h s q
  | .sign _, q => by simp [Part.may] at q
  | .span _ _, q => by simp [Part.may] at q
  | .any, q => by simp [Part.may] at q
theorem mayAll_mono {E E' : Str → Bool} (h : ∀ s, E s = true → E' s = true) : ∀ ps : List Part, Part.mayAll E ps = true → Part.mayAll E' ps = true
  | [], _ => by simp [Part.mayAll]
  | p :: ps, q => by
    rw [Part.mayAll, Bool.and_eq_true] at q ⊢
    exact ⟨may_mono h p q.1, mayAll_mono h ps q.2⟩
theorem mayAny_mono {E E' : Str → Bool} (h : ∀ s, E s = true → E' s = true) : ∀ ps : List Part, Part.mayAny E ps = true → Part.mayAny E' ps = true
  | [], q => by simp [Part.mayAny] at q
  | p :: ps, q => by
    rw [Part.mayAny, Bool.or_eq_true] at q ⊢
    exact q.imp (may_mono h p) (mayAny_mono h ps)
end
theorem may_congr {E E' : Str → Bool} (h : ∀ s, E s = E' s) (p : Part) : p.may E = p.may E' := by rw [show E = E' from funext h]
def Closed (rules : Rules) (E : List Str) : Prop := ∀ r ∈ rules, r.2.may (memB E) = true → r.1 ∈ E
def Least (rules : Rules) (E : List Str) : Prop := ∀ C, Closed rules C → ∀ s ∈ E, s ∈ C
structure IsEmp (rules : Rules) (E : List Str) : Prop where
  closed : Closed rules E
  least : Least rules E
  nd : E.Nodup
  sub : ∀ s ∈ E, s ∈ rules.map (·.1)
theorem IsEmp.mem {rules : Rules} {E E' : List Str} (a : IsEmp rules E) (b : IsEmp rules E') (s : Str) : s ∈ E ↔ s ∈ E' := ⟨a.least _ b.closed s, b.least _ a.closed s⟩
theorem IsEmp.memB {rules : Rules} {E E' : List Str} (a : IsEmp rules E) (b : IsEmp rules E') (s : Str) : G.memB E s = G.memB E' s := by
  unfold G.memB
  rw [decide_eq_decide]
  exact a.mem b s
def addE (E : List Str) (s : Str) : List Str := if s ∈ E then E else E ++ [s]
def stepE (E : List Str) (r : Str × Part) : List Str := if r.2.may (memB E) = true then addE E r.1 else E
theorem addE_sub (E : List Str) (s : Str) : ∀ t ∈ E, t ∈ addE E s := fun t h => by unfold addE; split <;> simp [h]
theorem addE_mem (E : List Str) (s : Str) : s ∈ addE E s := by unfold addE; split <;> simp_all
theorem addE_or {E : List Str} {s t : Str} (h : t ∈ addE E s) : t ∈ E ∨ t = s := by
  unfold addE at h
  split at h
  · exact .inl h
  · simpa using h
theorem stepE_sub (E : List Str) (r : Str × Part) : ∀ t ∈ E, t ∈ stepE E r := fun t h => by
  unfold stepE; split
  · exact addE_sub E _ t h
  · exact h
theorem stepE_nd {E : List Str} (r : Str × Part) (h : E.Nodup) : (stepE E r).Nodup := by
  unfold stepE addE
  split
  · split
    · exact h
    · rename_i hs
      rw [List.nodup_append]
      exact ⟨h, by simp, fun a ha b hb => by simp at hb; subst hb; exact fun e => hs (e ▸ ha)⟩
  · exact h
theorem stepE_names {rules : Rules} {E : List Str} {r : Str × Part} (hr : r ∈ rules) (h : ∀ s ∈ E, s ∈ rules.map (·.1)) : ∀ s ∈ stepE E r, s ∈ rules.map (·.1) := fun s hs => by
  unfold stepE at hs
  split at hs
  · rcases addE_or hs with q | rfl
    · exact h s q
    · exact List.mem_map.mpr ⟨r, hr, rfl⟩
  · exact h s hs
theorem stepE_least {rules : Rules} {E : List Str} {r : Str × Part} (hr : r ∈ rules) (h : Least rules E) : Least rules (stepE E r) := fun C hC s hs => by
  unfold stepE at hs
  split at hs
  · rename_i hm
    rcases addE_or hs with q | rfl
    · exact h C hC s q
    · exact hC r hr (may_mono (fun t ht => decide_eq_true (h C hC t (of_decide_eq_true ht))) _ hm)
  · exact h C hC s hs
theorem stepE_len (E : List Str) (r : Str × Part) : E.length ≤ (stepE E r).length := by
  unfold stepE addE
  split
  · split
    · exact Nat.le_refl _
    · simp
  · exact Nat.le_refl _
theorem stepE_same {E : List Str} {r : Str × Part} (h : (stepE E r).length = E.length) : stepE E r = E := by
  unfold stepE addE at h ⊢
  split
  · split
    · rfl
    · rename_i h1 h2
      rw [if_pos h1, if_neg h2] at h
      simp at h
  · rfl
theorem pass_len : ∀ (l : Rules) (E : List Str), E.length ≤ (l.foldl stepE E).length
  | [], _ => Nat.le_refl _
  | r :: l, E => Nat.le_trans (stepE_len E r) (pass_len l _)
theorem pass_same : ∀ (l : Rules) (E : List Str), (l.foldl stepE E).length = E.length → l.foldl stepE E = E ∧ ∀ r ∈ l, r.2.may (memB E) = true → r.1 ∈ E
  | [], E, _ => ⟨rfl, fun r hr => nomatch hr⟩
  | r :: l, E, h => by
    rw [List.foldl_cons] at h
    have h1 := stepE_len E r
    have h2 := pass_len l (stepE E r)
    have h3 := stepE_same (E := E) (r := r) (by omega)
    rw [h3] at h
    obtain ⟨h4, h5⟩ := pass_same l E h
    refine ⟨by rw [List.foldl_cons, h3, h4], fun r' hr' hm => ?_⟩
    rcases List.mem_cons.mp hr' with rfl | hr'
    · unfold stepE at h3
      rw [if_pos hm] at h3
      rw [← h3]
      exact addE_mem _ _
    · exact h5 r' hr' hm
theorem pass_nd : ∀ (l : Rules) (E : List Str), E.Nodup → (l.foldl stepE E).Nodup
  | [], _, h => h
  | x :: l, _, h => pass_nd l _ (stepE_nd x h)
theorem pass_names {rules : Rules} : ∀ (l : Rules) (E : List Str), (∀ r ∈ l, r ∈ rules) → (∀ s ∈ E, s ∈ rules.map (·.1)) → ∀ s ∈ l.foldl stepE E, s ∈ rules.map (·.1)
  | [], _, _, h => h
  | x :: l, _, h1, h2 => pass_names l _ (fun r hr => h1 r (List.mem_cons_of_mem _ hr)) (stepE_names (h1 x List.mem_cons_self) h2)
theorem pass_least {rules : Rules} : ∀ (l : Rules) (E : List Str), (∀ r ∈ l, r ∈ rules) → Least rules E → Least rules (l.foldl stepE E)
  | [], _, _, h => h
  | x :: l, _, h1, h2 => pass_least l _ (fun r hr => h1 r (List.mem_cons_of_mem _ hr)) (stepE_least (h1 x List.mem_cons_self) h2)
theorem nodup_le {α : Type} [DecidableEq α] : ∀ (l l' : List α), l.Nodup → (∀ x ∈ l, x ∈ l') → l.length ≤ l'.length
  | [], _, _, _ => Nat.zero_le _
  | a :: l, l', hn, h => by
    rw [List.nodup_cons] at hn
    have ha : a ∈ l' := h a List.mem_cons_self
    have h1 := nodup_le l (l'.erase a) hn.2 fun x hx => (List.mem_erase_of_ne (fun e => hn.1 (by rw [← e]; exact hx))).mpr (h x (List.mem_cons_of_mem _ hx))
    rw [List.length_erase_of_mem ha] at h1
    have h2 : 0 < l'.length := List.length_pos_of_mem ha
    simp only [List.length_cons]
    omega
/-! as dicts -/
def pk (rules : Rules) : List (Key × Dt) := rules.map fun r => (.inr r.1, r.2.dt)
def ek (E : List Str) : List (Key × Dt) := E.map fun s => (.inr s, .bl true)
theorem valD_pk {rules : Rules} : ∀ {r : Str × Part}, (rules.map (·.1)).Nodup → r ∈ rules → valD (pk rules) (.inr r.1) = some r.2.dt := by
  induction rules with
  | nil => intro r _ h; exact nomatch h
  | cons x l ih =>
    intro r hn h
    rw [List.map_cons, List.nodup_cons] at hn
    rcases List.mem_cons.mp h with rfl | h
    · simp [pk, valD, List.find?_cons]
    · have hne : x.1 ≠ r.1 := fun e => hn.1 (e ▸ List.mem_map.mpr ⟨r, h, rfl⟩)
      have := ih hn.2 h
      unfold pk valD at this ⊢
      rw [List.map_cons, List.find?_cons]
      have hd : decide ((Sum.inr x.1 : Key) = .inr r.1) = false := decide_eq_false fun e => hne (Sum.inr.inj e)
      rw [hd]
      exact this
theorem valD_pk_none {rules : Rules} {s : Str} (h : s ∉ rules.map (·.1)) : valD (pk rules) (.inr s) = none := by
  induction rules with
  | nil => rfl
  | cons x l ih =>
    rw [List.map_cons, List.mem_cons, not_or] at h
    have := ih h.2
    unfold pk valD at this ⊢
    rw [List.map_cons, List.find?_cons]
    have hd : decide ((Sum.inr x.1 : Key) = .inr s) = false := decide_eq_false fun e => h.1 (Sum.inr.inj e).symm
    rw [hd]
    exact this
theorem isSome_pk {rules : Rules} {s : Str} (hn : (rules.map (·.1)).Nodup) : (valD (pk rules) (.inr s)).isSome = decide (s ∈ rules.map (·.1)) := by
  by_cases h : s ∈ rules.map (·.1)
  · obtain ⟨r, hr, rfl⟩ := List.mem_map.mp h
    rw [valD_pk hn hr, decide_eq_true h]; rfl
  · rw [valD_pk_none h, decide_eq_false h]; rfl
theorem valD_ek (E : List Str) (s : Str) : (valD (ek E) (.inr s)).isSome = memB E s := by
  unfold memB
  induction E with
  | nil => rfl
  | cons x l ih =>
    unfold ek valD at ih ⊢
    rw [List.map_cons, List.find?_cons]
    by_cases e : x = s
    · subst e
      have hd : decide ((Sum.inr x : Key) = .inr x) = true := decide_eq_true rfl
      rw [hd]
      simp
    · have hd : decide ((Sum.inr x : Key) = .inr s) = false := decide_eq_false fun q => e (Sum.inr.inj q)
      rw [hd, ih, decide_eq_decide]
      have : ¬ s = x := fun q => e q.symm
      simp [this]
theorem any_ek (E : List Str) (s : Str) : ((ek E).any fun kv => decide (kv.1 = (.inr s : Key))) = decide (s ∈ E) := by
  induction E with
  | nil => rfl
  | cons x l ih =>
    unfold ek at ih ⊢
    rw [List.map_cons, List.any_cons, ih]
    by_cases e : x = s
    · subst e; simp
    · have : ¬ s = x := fun q => e q.symm
      simp [e, this]
theorem putD_ek (E : List Str) (s : Str) : putD (ek E) (.inr s) (.bl true) = ek (addE E s) := by
  unfold putD addE
  rw [any_ek]
  by_cases h : s ∈ E
  · rw [if_pos (decide_eq_true h), if_pos h]
    unfold ek
    rw [List.map_map]
    refine List.map_congr_left fun t ht => ?_
    show (if (Sum.inr t : Key) = .inr s then (Sum.inr t, Dt.bl true) else (Sum.inr t, Dt.bl true)) = _
    split <;> rfl
  · rw [if_neg (by simpa using h), if_neg h]
    unfold ek
    rw [List.map_append]
    rfl
theorem keys_pk (rules : Rules) : ((pk rules).map fun kv => kD kv.1) = (rules.map (·.1)).map .str := by
  unfold pk
  rw [List.map_map, List.map_map]
  rfl
end G

set_option Elab.async false
set_option linter.all false
set_option maxRecDepth 100000
set_option maxHeartbeats 4000000
/-! Who comes to whom. -/
namespace G
open PySem PySem.Spec PyProof.Rows L2
abbrev Aheads := List (Str × List Str)
inductive Reach (A : Aheads) (s : Str) : Str → Prop
  | one {l : List Str} {t : Str} : (s, l) ∈ A → t ∈ l → Reach A s t
  | more {t u : Str} {l : List Str} : Reach A s t → (t, l) ∈ A → u ∈ l → Reach A s u
def ak (A : Aheads) : List (Key × Dt) := A.map fun r => (.inr r.1, .lst (r.2.map .str))
structure GoodA (A : Aheads) : Prop where
  nd : (A.map (·.1)).Nodup
  tgt : ∀ r ∈ A, ∀ t ∈ r.2, t ∈ A.map (·.1)
  siz : ∀ r ∈ A, r.2.length ≤ 100000
  len : A.length ≤ 100
theorem valD_ak {A : Aheads} : ∀ {r : Str × List Str}, (A.map (·.1)).Nodup → r ∈ A → valD (ak A) (.inr r.1) = some (.lst (r.2.map .str)) := by
  induction A with
  | nil => intro r _ h; exact nomatch h
  | cons x l ih =>
    intro r hn h
    rw [List.map_cons, List.nodup_cons] at hn
    rcases List.mem_cons.mp h with rfl | h
    · simp [ak, valD, List.find?_cons]
    · have hne : x.1 ≠ r.1 := fun e => hn.1 (e ▸ List.mem_map.mpr ⟨r, h, rfl⟩)
      have := ih hn.2 h
      unfold ak valD at this ⊢
      rw [List.map_cons, List.find?_cons]
      have hd : decide ((Sum.inr x.1 : Key) = .inr r.1) = false := decide_eq_false fun e => hne (Sum.inr.inj e)
      rw [hd]
      exact this
theorem ahead_uniq {A : Aheads} (hn : (A.map (·.1)).Nodup) {s : Str} {l l' : List Str} (h : (s, l) ∈ A) (h' : (s, l') ∈ A) : l = l' := by
  have h1 := valD_ak hn h
  have h2 := valD_ak hn h'
  rw [h1] at h2
  have h3 : (l.map Dt.str) = l'.map Dt.str := by simpa using h2
  have inj : ∀ a b : List Str, a.map Dt.str = b.map Dt.str → a = b := by
    intro a
    induction a with
    | nil => intro b h; cases b with
      | nil => rfl
      | cons x b => cases h
    | cons x a ih => intro b h; cases b with
      | nil => cases h
      | cons y b => injection h with h1 h2; injection h1 with h1; rw [h1, ih b h2]
  exact inj _ _ h3
structure RingI (A : Aheads) (s0 : Str) (W S : List Str) : Prop where
  w1 : ∀ t ∈ W, Reach A s0 t
  w2 : ∀ t ∈ W, t ∈ A.map (·.1)
  st : ∀ l, (s0, l) ∈ A → ∀ t ∈ l, t ∈ W ∨ t ∈ S
  cl : ∀ t ∈ S, ∀ l, (t, l) ∈ A → ∀ u ∈ l, u ∈ W ∨ u ∈ S
  no : s0 ∉ S
  nd : S.Nodup
  sb : ∀ t ∈ S, t ∈ A.map (·.1)
theorem RingI.start {A : Aheads} (g : GoodA A) {r : Str × List Str} (h : r ∈ A) : RingI A r.1 r.2 [] where
  w1 := fun t ht => .one h ht
  w2 := g.tgt r h
  st := fun l hl t ht => .inl (by rw [ahead_uniq g.nd h hl]; exact ht)
  cl := fun t ht => nomatch ht
  no := fun h => nomatch h
  nd := List.nodup_nil
  sb := fun t ht => nomatch ht
theorem RingI.stop {A : Aheads} {s0 : Str} {S : List Str} (h : RingI A s0 [] S) : ¬ Reach A s0 s0 := fun q => by
  have : ∀ t, Reach A s0 t → t ∈ S := fun t ht => by
    induction ht with
    | one hl ht => exact (h.st _ hl _ ht).resolve_left (fun z => nomatch z)
    | more _ hl hu ih => exact (h.cl _ ih _ hl _ hu).resolve_left (fun z => nomatch z)
  exact h.no (this _ q)
theorem RingI.skip {A : Aheads} {s0 x : Str} {W S : List Str} (h : RingI A s0 (W ++ [x]) S) (hx : x ∈ S) : RingI A s0 W S where
  w1 := fun t ht => h.w1 t (by simp [ht])
  w2 := fun t ht => h.w2 t (by simp [ht])
  st := fun l hl t ht => (h.st l hl t ht).elim (fun q => by
    rcases List.mem_append.mp q with q | q
    · exact .inl q
    · simp at q; subst q; exact .inr hx) .inr
  cl := fun t ht l hl u hu => (h.cl t ht l hl u hu).elim (fun q => by
    rcases List.mem_append.mp q with q | q
    · exact .inl q
    · simp at q; subst q; exact .inr hx) .inr
  no := h.no
  nd := h.nd
  sb := h.sb
theorem RingI.push {A : Aheads} (g : GoodA A) {s0 x : Str} {W S l : List Str} (h : RingI A s0 (W ++ [x]) S) (hne : x ≠ s0) (hx : x ∉ S) (hl : (x, l) ∈ A) : RingI A s0 (W ++ l) (S ++ [x]) where
  w1 := fun t ht => by
    rcases List.mem_append.mp ht with q | q
    · exact h.w1 t (by simp [q])
    · exact .more (h.w1 x (by simp)) hl q
  w2 := fun t ht => by
    rcases List.mem_append.mp ht with q | q
    · exact h.w2 t (by simp [q])
    · exact g.tgt _ hl t q
  st := fun l' hl' t ht => by
    rcases h.st l' hl' t ht with q | q
    · rcases List.mem_append.mp q with q | q
      · exact .inl (by simp [q])
      · exact .inr (by simp at q; simp [q])
    · exact .inr (by simp [q])
  cl := fun t ht l' hl' u hu => by
    rcases List.mem_append.mp ht with q | q
    · rcases h.cl t q l' hl' u hu with q | q
      · rcases List.mem_append.mp q with q | q
        · exact .inl (by simp [q])
        · exact .inr (by simp at q; simp [q])
      · exact .inr (by simp [q])
    · simp at q
      subst q
      exact .inl (by rw [List.mem_append]; exact .inr (by rw [ahead_uniq g.nd hl hl']; exact hu))
  no := fun q => by
    rcases List.mem_append.mp q with q | q
    · exact h.no q
    · simp at q; exact hne q.symm
  nd := by
    rw [List.nodup_append]
    exact ⟨h.nd, by simp, fun a ha b hb => by simp at hb; subst hb; exact fun e => hx (e ▸ ha)⟩
  sb := fun t ht => by
    rcases List.mem_append.mp ht with q | q
    · exact h.sb t q
    · simp at q; subst q; exact h.w2 t (by simp)
end G

set_option Elab.async false
set_option linter.all false
set_option maxRecDepth 100000
set_option maxHeartbeats 4000000
/-! What a grammar takes, as plain lists of Lean. -/
namespace G
open PySem PySem.Spec PyProof.Rows L2
theorem isSign_inv {d : Dt} (h : isSignD d = true) : ∃ c, d = .str (sg c) ∧ c ∈ codes := by
  cases d with
  | str s =>
    obtain ⟨⟨l⟩⟩ := s
    match l, h with
    | [c], h => exact ⟨c, rfl, of_decide_eq_true h⟩
  | _ => cases h
theorem isName_inv {d : Dt} (h : isNameD d = true) : ∃ s, d = .str s := by
  cases d with
  | str s => exact ⟨s, rfl⟩
  | _ => cases h
theorem isLeaf_inv {h : Str} {t : List Dt} (q : isLeafD h t = true) : ∃ p : Part, p.dt = .tup (.str h :: t) ∧ p.good = true ∧ p.deep = 1 := by
  unfold isLeafD at q
  split at q
  · rename_i e
    subst e
    cases t with
    | nil => exact ⟨.any, by rw [Part.dt], by simp [Part.good], by simp [Part.deep]⟩
    | cons x t => cases q
  · split at q
    · rename_i e
      subst e
      match t, q with
      | [x], q =>
        obtain ⟨c, rfl, hc⟩ := isSign_inv q
        exact ⟨.sign c, by rw [Part.dt], by simpa [Part.good] using hc, by simp [Part.deep]⟩
    · split at q
      · rename_i e
        subst e
        match t, q with
        | [x, y], q =>
          rw [Bool.and_eq_true, Bool.and_eq_true] at q
          obtain ⟨c, rfl, hc⟩ := isSign_inv q.1.1
          obtain ⟨d, rfl, hd⟩ := isSign_inv q.1.2
          have h3 : (!decide ((sg d).cps.toList < (sg c).cps.toList)) = true := q.2
          rw [sg_lt] at h3
          exact ⟨.span c d, by rw [Part.dt], by simp only [Part.good]; simp [hc, hd]; exact of_decide_eq_true h3, by simp [Part.deep]⟩
      · rw [Bool.and_eq_true] at q
        have e := of_decide_eq_true q.1
        subst e
        match t, q.2 with
        | [.str s], _ => exact ⟨.rule s, by rw [Part.dt], by simp [Part.good], by simp [Part.deep]⟩
theorem all_inv {n : Nat} (ih : ∀ d, isPartD n d = true → ∃ p : Part, p.dt = d ∧ p.good = true ∧ p.deep ≤ n) : ∀ ds : List Dt, ds.all (isPartD n) = true → ∃ ps, Part.dts ps = ds ∧ Part.goods ps = true ∧ Part.deeps ps ≤ n
  | [], _ => ⟨[], by rw [Part.dts], by rw [Part.goods], by rw [Part.deeps]; exact Nat.zero_le _⟩
  | d :: ds, h => by
    rw [List.all_cons, Bool.and_eq_true] at h
    obtain ⟨p, h1, h2, h3⟩ := ih d h.1
    obtain ⟨ps, h4, h5, h6⟩ := all_inv ih ds h.2
    exact ⟨p :: ps, by rw [Part.dts, h1, h4], by rw [Part.goods, h2, h5]; rfl, by rw [Part.deeps]; omega⟩
theorem isPart_inv : ∀ (n : Nat) (d : Dt), isPartD n d = true → ∃ p : Part, p.dt = d ∧ p.good = true ∧ p.deep ≤ n
  | 0, d, h => by unfold isPartD at h; cases h
  | n + 1, d, h => by
    have ih := fun d => isPart_inv n d
    cases d with
    | tup l =>
      cases l with
      | nil => unfold isPartD at h; cases h
      | cons x t =>
        cases x with
        | str k =>
          by_cases h1 : k = "row" ∨ k = "or"
          · rcases t with _ | ⟨x, _ | ⟨y, r⟩⟩
            · simp [isPartD, h1] at h
            · cases x with
              | tup ds =>
                have h2 : (!(decide (k = "or") && ds.isEmpty) && ds.all (isPartD n)) = true := by
                  unfold isPartD at h
                  rw [if_pos h1] at h
                  exact h
                rw [Bool.and_eq_true] at h2
                obtain ⟨ps, h3, h4, h5⟩ := all_inv ih ds h2.2
                rcases h1 with rfl | rfl
                · exact ⟨.row ps, by rw [Part.dt, h3], by simpa [Part.good] using h4, by simp only [Part.deep]; omega⟩
                · refine ⟨.or ps, by rw [Part.dt, h3], ?_, by simp only [Part.deep]; omega⟩
                  simp only [Part.good, Bool.and_eq_true]
                  refine ⟨?_, h4⟩
                  have h6 := h2.1
                  cases ps with
                  | nil => rw [Part.dts] at h3; subst h3; simp at h6
                  | cons p ps => rfl
              | _ => simp [isPartD, h1] at h
            · cases x <;> simp [isPartD, h1] at h
          · by_cases h2 : k = "many" ∨ k = "not"
            · rcases t with _ | ⟨x, _ | ⟨y, r⟩⟩
              · simp [isPartD, h1, h2] at h
              · have h3 : isPartD n x = true := by
                  cases x <;> simpa [isPartD, h1, h2] using h
                obtain ⟨p, h4, h5, h6⟩ := ih x h3
                rcases h2 with rfl | rfl
                · exact ⟨.many p, by rw [Part.dt, h4], by simpa [Part.good] using h5, by simp only [Part.deep]; omega⟩
                · exact ⟨.not p, by rw [Part.dt, h4], by simpa [Part.good] using h5, by simp only [Part.deep]; omega⟩
              · simp [isPartD, h1, h2] at h
            · have h3 : isLeafD k t = true := by
                rcases t with _ | ⟨x, _ | ⟨y, r⟩⟩
                · simpa [isPartD, h1, h2] using h
                · cases x <;> simpa [isPartD, h1, h2] using h
                · cases x <;> simpa [isPartD, h1, h2] using h
              obtain ⟨p, h4, h5, h6⟩ := isLeaf_inv h3
              exact ⟨p, h4, h5, by omega⟩
        | _ => unfold isPartD at h; cases h
    | _ => unfold isPartD at h; cases h
/-- rules as they may be handed in -/
structure Valid (l : List (Dt × Dt)) (rules : Rules) : Prop where
  eq : l = rules.map fun r => (.str r.1, r.2.dt)
  nd : (rules.map (·.1)).Nodup
  nm : ∀ r ∈ rules, isNameD (.str r.1) = true
  pt : ∀ r ∈ rules, r.2.good = true ∧ r.2.deep ≤ 12
theorem Valid.len {l : List (Dt × Dt)} {rules : Rules} (h : Valid l rules) : l.length = rules.length := by rw [h.eq, List.length_map]
mutual
theorem dt_inj : ∀ {p q : Part}, p.dt = q.dt → p = q
  | .sign a, q, h => by
    cases q <;> simp [Part.dt] at h
    rw [sg_inj h]
  | .span a b, q, h => by
    cases q <;> simp [Part.dt] at h
    rw [sg_inj h.1, sg_inj h.2]
  | .any, q, h => by cases q <;> simp [Part.dt] at h <;> rfl
  | .row ps, q, h => by
    cases q <;> simp [Part.dt] at h
    rw [dts_inj h]
  | .or ps, q, h => by
    cases q <;> simp [Part.dt] at h
    rw [dts_inj h]
  | .many p, q, h => by
    cases q <;> simp [Part.dt] at h
    rw [dt_inj h]
  | .not p, q, h => by
    cases q <;> simp [Part.dt] at h
    rw [dt_inj h]
  | .rule s, q, h => by
    cases q <;> simp [Part.dt] at h
    rw [h]
theorem dts_inj : ∀ {ps qs : List Part}, Part.dts ps = Part.dts qs → ps = qs
  | [], [], _ => rfl
  | [], q :: qs, h => by simp [Part.dts] at h
  | p :: ps, [], h => by simp [Part.dts] at h
  | p :: ps, q :: qs, h => by
    simp only [Part.dts, List.cons.injEq] at h
    rw [dt_inj h.1, dts_inj h.2]
end
theorem Valid.uniq {l : List (Dt × Dt)} {r r' : Rules} (h : Valid l r) (h' : Valid l r') : r = r' := by
  have e := h.eq.symm.trans h'.eq
  clear h h'
  induction r generalizing r' l with
  | nil => cases r' with
    | nil => rfl
    | cons x r' => cases e
  | cons a r ih => cases r' with
    | nil => cases e
    | cons b r' =>
      simp only [List.map_cons, List.cons.injEq, Prod.mk.injEq, Dt.str.injEq] at e
      obtain ⟨a1, a2⟩ := a
      obtain ⟨b1, b2⟩ := b
      have h1 : a1 = b1 := e.1.1
      have h2 : a2 = b2 := dt_inj e.1.2
      rw [h1, h2, ih (l := []) e.2]
theorem Valid.snoc {l : List (Dt × Dt)} {rules : Rules} {s : Str} {p : Part} (h : Valid l rules) (hs : s ∉ rules.map (·.1)) (hn : isNameD (.str s) = true) (hg : p.good = true) (hd : p.deep ≤ 12) : Valid (l ++ [(.str s, p.dt)]) (rules ++ [(s, p)]) where
  eq := by rw [h.eq, List.map_append]; rfl
  nd := by
    rw [List.map_append, List.nodup_append]
    exact ⟨h.nd, by simp, fun a ha b hb => by simp at hb; subst hb; exact fun e => hs (e ▸ ha)⟩
  nm := fun r hr => by
    rcases List.mem_append.mp hr with hr | hr
    · exact h.nm r hr
    · simp at hr; subst hr; exact hn
  pt := fun r hr => by
    rcases List.mem_append.mp hr with hr | hr
    · exact h.pt r hr
    · simp at hr; subst hr; exact ⟨hg, hd⟩
/-- a valid whole is so at each place -/
theorem Valid.at {l : List (Dt × Dt)} {rules acc : Rules} {i : Nat} {x : Dt × Dt} (h : Valid l rules) (ha : Valid (l.take i) acc) (hx : l[i]? = some x) : ∃ (s : Str) (p : Part), x = (Dt.str s, p.dt) ∧ s ∉ acc.map (·.1) ∧ isNameD (.str s) = true ∧ p.good = true ∧ p.deep ≤ 12 := by
  have e : acc = rules.take i := by
    refine Valid.uniq ha ⟨?_, ?_, fun r hr => h.nm r (List.mem_of_mem_take hr), fun r hr => h.pt r (List.mem_of_mem_take hr)⟩
    · rw [h.eq, List.map_take]
    · rw [List.map_take]; exact h.nd.sublist (List.take_sublist _ _)
  rw [h.eq, List.getElem?_map] at hx
  obtain ⟨r, hr, rfl⟩ := Option.map_eq_some_iff.mp hx
  have hm : r ∈ rules := List.mem_of_getElem? hr
  refine ⟨r.1, r.2, rfl, ?_, h.nm r hm, (h.pt r hm).1, (h.pt r hm).2⟩
  subst e
  intro q
  have h1 : rules.take (i + 1) = rules.take i ++ [r] := by rw [List.take_succ, hr]; rfl
  have h2 : ((rules.take (i + 1)).map (·.1)).Nodup := by rw [List.map_take]; exact h.nd.sublist (List.take_sublist _ _)
  rw [h1, List.map_append, List.nodup_append] at h2
  exact h2.2.2 _ q r.1 (by simp) rfl
theorem putD_pk {acc : Rules} {s : Str} {p : Part} (hs : s ∉ acc.map (·.1)) : putD (pk acc) (.inr s) p.dt = pk (acc ++ [(s, p)]) := by
  unfold putD
  have : ((pk acc).any fun kv => decide (kv.1 = (.inr s : Key))) = false := by
    rw [List.any_eq_false]
    intro x hx
    unfold pk at hx
    obtain ⟨r, hr, rfl⟩ := List.mem_map.mp hx
    simp only [decide_eq_true_eq]
    exact fun e => hs (Sum.inr.inj e ▸ List.mem_map.mpr ⟨r, hr, rfl⟩)
  rw [if_neg (by rw [this]; exact Bool.false_ne_true)]
  unfold pk
  rw [List.map_append]
  rfl
theorem putD_ak {acc : Aheads} {s : Str} {l : List Str} (hs : s ∉ acc.map (·.1)) : putD (ak acc) (.inr s) (.lst (l.map .str)) = ak (acc ++ [(s, l)]) := by
  unfold putD
  have : ((ak acc).any fun kv => decide (kv.1 = (.inr s : Key))) = false := by
    rw [List.any_eq_false]
    intro x hx
    unfold ak at hx
    obtain ⟨r, hr, rfl⟩ := List.mem_map.mp hx
    simp only [decide_eq_true_eq]
    exact fun e => hs (Sum.inr.inj e ▸ List.mem_map.mpr ⟨r, hr, rfl⟩)
  rw [if_neg (by rw [this]; exact Bool.false_ne_true)]
  unfold ak
  rw [List.map_append]
  rfl
def Known (rules : Rules) : Prop := ∀ r ∈ rules, ∀ s ∈ r.2.rules, s ∈ rules.map (·.1)
def aheads (rules : Rules) (E : List Str) : Aheads := rules.map fun r => (r.1, r.2.ahead (memB E))
def Rings (rules : Rules) (E : List Str) : Prop := ∃ r ∈ rules, Reach (aheads rules E) r.1 r.1
mutual
theorem ahead_rules (E : Str → Bool) : ∀ (p : Part), ∀ s ∈ p.ahead E, s ∈ p.rules
  | .rule s, t, h => by simpa [Part.ahead, Part.rules] using h
  | .row ps, t, h => by rw [Part.ahead] at h; rw [Part.rules]; exact aheadRow_rules E ps t h
  | .or ps, t, h => by rw [Part.ahead] at h; rw [Part.rules]; exact aheadOr_rules E ps t h
  | .many p, t, h => by rw [Part.ahead] at h; rw [Part.rules]; exact ahead_rules E p t h
  | .not p, t, h => by rw [Part.ahead] at h; rw [Part.rules]; exact ahead_rules E p t h
  | .sign _, t, h => by simp [Part.ahead] at h
  | .span _ _, t, h => by simp [Part.ahead] at h
  | .any, t, h => by simp [Part.ahead] at h
theorem aheadRow_rules (E : Str → Bool) : ∀ (ps : List Part), ∀ s ∈ Part.aheadRow E ps, s ∈ Part.ruless ps
  | [], t, h => by simp [Part.aheadRow] at h
  | p :: ps, t, h => by
    rw [Part.aheadRow] at h
    rw [Part.ruless, List.mem_append]
    rcases List.mem_append.mp h with h | h
    · exact .inl (ahead_rules E p t h)
    · split at h
      · exact .inr (aheadRow_rules E ps t h)
      · simp at h
theorem aheadOr_rules (E : Str → Bool) : ∀ (ps : List Part), ∀ s ∈ Part.aheadOr E ps, s ∈ Part.ruless ps
  | [], t, h => by simp [Part.aheadOr] at h
  | p :: ps, t, h => by
    rw [Part.aheadOr] at h
    rw [Part.ruless, List.mem_append]
    rcases List.mem_append.mp h with h | h
    · exact .inl (ahead_rules E p t h)
    · exact .inr (aheadOr_rules E ps t h)
end
theorem good_aheads {rules : Rules} {E : List Str} (hn : (rules.map (·.1)).Nodup) (hk : Known rules) (hs : ∀ r ∈ rules, r.2.size ≤ 100000) (hl : rules.length ≤ 100) : GoodA (aheads rules E) where
  nd := by unfold aheads; rw [List.map_map]; exact hn
  tgt := fun r hr t ht => by
    unfold aheads at hr ⊢
    obtain ⟨x, hx, rfl⟩ := List.mem_map.mp hr
    rw [List.map_map]
    exact hk x hx t (ahead_rules _ _ t ht)
  siz := fun r hr => by
    unfold aheads at hr
    obtain ⟨x, hx, rfl⟩ := List.mem_map.mp hr
    exact Nat.le_trans (Part.ahead_le _ _) (hs x hx)
  len := by unfold aheads; rw [List.length_map]; exact hl
end G

set_option Elab.async false
set_option linter.all false
set_option maxRecDepth 100000
set_option maxHeartbeats 4000000
/-! The grammars that the laws draw, as plain lists of Lean. -/
namespace G
open PySem PySem.Spec PyProof.Rows L2
def mk (l : List Nat) : Str := ⟨l.toArray⟩
theorem mk_inj {a b : List Nat} (h : mk a = mk b) : a = b := by
  have : (mk a).cps.toList = (mk b).cps.toList := by rw [h]
  exact this
theorem mk_add (a b : List Nat) : mk a ++ mk b = mk (a ++ b) := by
  show (⟨a.toArray ++ b.toArray⟩ : Str) = ⟨(a ++ b).toArray⟩
  simp
def lt (i : Int) : Nat := 97 + (i % 26).toNat
def short (k : Nat) : List Nat := [97 + k % 26, 97 + k / 26]
def alike (style : Int) : List Nat := (List.range (style / 4 % 11).toNat).map fun j => lt (style + 5 * (j : Nat))
def atOf (style : Int) : Nat := (style * 7 % 1009 % (((alike style).length : Nat) + 1 : Int)).toNat
def nameL (style cell : Int) (k : Nat) : List Nat :=
  if style % 4 = 0 then short k ++ (List.range (cell % 11).toNat).map fun j => lt (cell + 5 * (j : Nat))
  else if style % 4 = 1 then (alike style).take (atOf style) ++ short k ++ (alike style).drop (atOf style)
  else if style % 4 = 2 ∧ k < 12 then List.replicate (k + 1) (lt (style / 4))
  else if style % 4 = 2 then short k ++ [122]
  else if k < 26 then [97 + k] else short k
def sAt (S : List Nat) (i : Int) : Nat := S.getD i.toNat 0
def leafP (cell : Int) (S : List Nat) (names : List Str) (first : Nat) : Part :=
  if cell % 7 = 2 then .span (sAt S (cell / 7 % 3)) (sAt S 2)
  else if cell % 7 = 3 then .any
  else if 3 < cell % 7 ∧ first < names.length then .rule (names.getD (first + (cell / 7 % ((names.length : Nat) - (first : Nat) : Int)).toNat) ⟨#[]⟩)
  else .sign (sAt S (cell / 7 % 3))
def joinedP (deed : Nat) (p l o : Part) : Part :=
  match deed with
  | 0 => .many p
  | 1 => .not p
  | 2 => .row [p, l]
  | 3 => .row [l, p]
  | 4 => .or [p, l]
  | 5 => .or [l, p]
  | 6 => .or [p, .row []]
  | 7 => .row [p, .not l]
  | 8 => .row [l, p, o]
  | 9 => .or [l, .row [p, o], o, p]
  | 10 => .or [o, l, p]
  | 11 => .row [.many l, .not o, .many o, p, .many l]
  | 12 => .or [.not .any, l, o, p, l, .any]
  | _ => .row [l, .many o, p, .many l, o, .not l, .many p]
def num0 (cell : Int) : Int := cell * 48271 % 2147483647
def num1 (n : Int) (t : Nat) : Int := (n * 16807 + 12345 + (t : Nat)) % 2147483647
def turnP (S : List Nat) (names : List Str) (first : Nat) (st : Int × Part) (t : Nat) : Int × Part :=
  (num1 st.1 t, joinedP (num1 st.1 t / 11 % 14).toNat st.2 (leafP (num1 st.1 t / 154) S names first) (leafP (num1 st.1 t / 30011) S names first))
def piledP (cell : Int) (S : List Nat) (names : List Str) (first : Nat) : Part :=
  ((List.range 3).foldl (turnP S names first) (num0 cell, leafP (num0 cell / 5) S names first)).2
def sureP (cell : Int) (S : List Nat) : Part := ([.sign (sAt S (cell % 3)), .span (sAt S 0) (sAt S 2), .any] : List Part).getD (cell / 3 % 3).toNat .any
def laterOf (k n : Nat) : Nat := k + 1 + min 1 (n / 6) * (n / 4)
def headP (cell : Int) (S : List Nat) (names : List Str) : Part := .row [sureP cell S, piledP (cell + 1) S names 0]
def tailP (cell : Int) (k : Nat) (S : List Nat) (names : List Str) : Part := piledP (cell * 7 + 3) S names (laterOf k names.length)
def bodyP (cell : Int) (k : Nat) (S : List Nat) (names : List Str) : Part :=
  ([.or [headP cell S names, tailP cell k S names], .or [tailP cell k S names, headP cell S names], headP cell S names, tailP cell k S names] : List Part).getD (cell * 16807 % 10007 % 4).toNat .any
def partP (cell : Int) (k : Nat) (S : List Nat) (names : List Str) : Part :=
  if cell * 48271 % 10009 % 8 = 1 then .row [.or [.row [bodyP cell k S names]]] else bodyP cell k S names
def signsL (cell : Int) : List Nat := sortN [sgn cell, sgn (cell * 48271 % 10007), sgn (cell * 16807 % 10009)]
def manyOf (cell : Int) : Nat := if cell / 5 % 8 = 1 then 6 + (cell / 40 % 35).toNat else 1 + (cell % 5).toNat
def namesOf (ns : List Int) : List Str := (List.range (manyOf (cell ns 2))).map fun k => mk (nameL (cell ns 0 + cell ns 2) (cell ns (3 + (k : Nat))) k)
def rulesOf (ns : List Int) : Rules := (List.range (manyOf (cell ns 2))).map fun k => (mk (nameL (cell ns 0 + cell ns 2) (cell ns (3 + (k : Nat))) k), partP (cell ns (3 + (k : Nat)) + 7919 * (k : Nat)) k (signsL (cell ns 0)) (namesOf ns))
end G

set_option Elab.async false
set_option linter.all false
set_option maxRecDepth 100000
set_option maxHeartbeats 2000000
/-! What is drawn makes a grammar. -/
namespace G
open PySem PySem.Spec PyProof.Rows L2
theorem many_le' (c : Int) : 1 ≤ manyOf c ∧ manyOf c ≤ 40 := by
  unfold manyOf
  have h1 := Int.emod_lt_of_pos (c / 40) (show (0 : Int) < 35 by decide)
  have h2 := Int.emod_lt_of_pos c (show (0 : Int) < 5 by decide)
  split <;> omega
/-! names -/
theorem lt_az (i : Int) : 97 ≤ lt i ∧ lt i < 123 := by
  unfold lt
  have h1 := Int.emod_lt_of_pos i (show (0 : Int) < 26 by decide)
  have h2 := Int.emod_nonneg i (show (26 : Int) ≠ 0 by decide)
  omega
theorem short_inj {j k : Nat} (h : short j = short k) : j = k := by
  unfold short at h
  simp only [List.cons.injEq, and_true] at h
  omega
theorem nameL_inj {st c c' : Int} {j k : Nat} (hj : j < 40) (hk : k < 40) (h : nameL st c j = nameL st c' k) : j = k := by
  unfold nameL at h
  by_cases h0 : st % 4 = 0
  · rw [if_pos h0, if_pos h0] at h
    have := congrArg (List.take 2) h
    exact short_inj (by simpa [short] using this)
  rw [if_neg h0, if_neg h0] at h
  by_cases h1 : st % 4 = 1
  · rw [if_pos h1, if_pos h1, List.append_assoc, List.append_assoc] at h
    have h2 := List.append_cancel_left h
    have h3 := List.append_cancel_right h2
    exact short_inj h3
  rw [if_neg h1, if_neg h1] at h
  by_cases h2 : st % 4 = 2
  · by_cases a : j < 12 <;> by_cases b : k < 12
    · rw [if_pos ⟨h2, a⟩, if_pos ⟨h2, b⟩] at h
      have := congrArg List.length h
      simpa using this
    · rw [if_pos ⟨h2, a⟩, if_neg (fun q => b q.2), if_pos h2] at h
      exfalso
      have hl := congrArg List.length h
      simp [short] at hl
      have : j = 2 := by omega
      subst this
      simp [short, List.replicate] at h
      omega
    · rw [if_neg (fun q => a q.2), if_pos h2, if_pos ⟨h2, b⟩] at h
      exfalso
      have hl := congrArg List.length h
      simp [short] at hl
      have : k = 2 := by omega
      subst this
      simp [short, List.replicate] at h
      omega
    · rw [if_neg (fun q => a q.2), if_pos h2, if_neg (fun q => b q.2), if_pos h2] at h
      exact short_inj (List.append_cancel_right h)
  simp only [h2, false_and, if_false] at h
  by_cases a : j < 26 <;> by_cases b : k < 26
  · rw [if_pos a, if_pos b] at h
    simp at h
    exact h
  · rw [if_pos a, if_neg b] at h
    exact absurd (congrArg List.length h) (by simp [short])
  · rw [if_neg a, if_pos b] at h
    exact absurd (congrArg List.length h) (by simp [short])
  · rw [if_neg a, if_neg b] at h
    exact short_inj h
theorem nameL_az {st c : Int} {k : Nat} (hk : k < 40) : 1 ≤ (nameL st c k).length ∧ (nameL st c k).length ≤ 12 ∧ ∀ x ∈ nameL st c k, 97 ≤ x ∧ x < 123 := by
  have hs : ∀ x ∈ short k, 97 ≤ x ∧ x < 123 := fun x hx => by
    unfold short at hx
    simp at hx
    omega
  have hsl : (short k).length = 2 := rfl
  have ha : ∀ x ∈ alike st, 97 ≤ x ∧ x < 123 := fun x hx => by
    unfold alike at hx
    obtain ⟨j, _, rfl⟩ := List.mem_map.mp hx
    exact lt_az _
  have hal : (alike st).length ≤ 10 := by
    unfold alike
    rw [List.length_map, List.length_range]
    have := Int.emod_lt_of_pos (st / 4) (show (0 : Int) < 11 by decide)
    omega
  unfold nameL
  split
  · have := Int.emod_lt_of_pos c (show (0 : Int) < 11 by decide)
    refine ⟨by simp [short], by simp [short]; omega, fun x hx => ?_⟩
    rcases List.mem_append.mp hx with q | q
    · exact hs x q
    · obtain ⟨j, _, rfl⟩ := List.mem_map.mp q
      exact lt_az _
  · split
    · refine ⟨by simp only [List.length_append, hsl]; omega, ?_, fun x hx => ?_⟩
      · simp only [List.length_append, List.length_take, List.length_drop, hsl]
        omega
      · rw [List.mem_append, List.mem_append] at hx
        rcases hx with (q | q) | q
        · exact ha x (List.mem_of_mem_take q)
        · exact hs x q
        · exact ha x (List.mem_of_mem_drop q)
    · split
      · rename_i h
        refine ⟨by simp, by simp; omega, fun x hx => ?_⟩
        rw [List.eq_of_mem_replicate hx]
        exact lt_az _
      · split
        · refine ⟨by simp [short], by simp [short], fun x hx => ?_⟩
          rcases List.mem_append.mp hx with q | q
          · exact hs x q
          · simp at q; omega
        · split
          · refine ⟨by simp, by simp, fun x hx => ?_⟩
            simp at hx
            omega
          · exact ⟨by simp [short], by simp [short], hs⟩
theorem letters_mem {x : Nat} (h : 97 ≤ x ∧ x < 123) : x ∈ lettersS.cps.toList := by
  show x ∈ (List.range 26).map (97 + ·)
  exact List.mem_map.mpr ⟨x - 97, List.mem_range.mpr (by omega), by omega⟩
theorem nameL_ok {st c : Int} {k : Nat} (hk : k < 40) : isNameD (.str (mk (nameL st c k))) = true := by
  obtain ⟨h1, h2, h3⟩ := nameL_az (st := st) (c := c) hk
  show ((decide (1 ≤ (nameL st c k).length) && decide ((nameL st c k).length ≤ 12)) && (nameL st c k).all fun c => decide (c ∈ lettersS.cps.toList)) = true
  rw [decide_eq_true h1, decide_eq_true h2]
  simp only [Bool.and_self, Bool.true_and, List.all_eq_true, decide_eq_true_eq]
  exact fun x hx => letters_mem (h3 x hx)
/-! parts -/
structure OkP (p : Part) (d z : Nat) : Prop where
  good : p.good = true
  deep : p.deep ≤ d
  size : p.size ≤ z
theorem sAt_mem {S : List Nat} (hS : S.length = 3) (hc : ∀ x ∈ S, x ∈ codes) {i : Int} (h0 : 0 ≤ i) (h : i < 3) : sAt S i ∈ codes := by
  unfold sAt
  have hi : i.toNat < S.length := by omega
  rw [List.getD_eq_getElem?_getD, List.getElem?_eq_getElem hi]
  exact hc _ (List.getElem_mem hi)
structure OkS (S : List Nat) : Prop where
  len : S.length = 3
  mem : ∀ x ∈ S, x ∈ codes
  srt : S.Pairwise (· ≤ ·)
theorem OkS.at (h : OkS S) (i : Int) : sAt S (i % 3) ∈ codes := sAt_mem h.len h.mem (Int.emod_nonneg _ (by decide)) (Int.emod_lt_of_pos _ (by decide))
theorem OkS.last (h : OkS S) {i : Int} (h0 : 0 ≤ i) (h3 : i < 3) : sAt S i ≤ sAt S 2 := by
  obtain ⟨hl, _, hs⟩ := h
  match S, hl with
  | [a, b, c], _ =>
    simp only [List.pairwise_cons] at hs
    have h1 := hs.1 c (by simp)
    have h2 := hs.2.1 c (by simp)
    obtain ⟨m, rfl⟩ : ∃ m : Nat, i = m := ⟨i.toNat, by omega⟩
    match m, h3 with
    | 0, _ => exact h1
    | 1, _ => exact h2
    | 2, _ => exact Nat.le_refl _
    | m + 3, h3 => omega
theorem signsL_ok (c : Int) : OkS (signsL c) where
  len := by unfold signsL; rw [(sortN_perm _).length_eq]; rfl
  mem := fun x hx => by
    have := (sortN_perm _).mem_iff.mp hx
    simp at this
    rcases this with rfl | rfl | rfl <;> exact sgn_mem _
  srt := sortN_sorted _
theorem leafP_ok {S : List Nat} (h : OkS S) (c : Int) (names : List Str) (first : Nat) : OkP (leafP c S names first) 1 1 := by
  unfold leafP
  split
  · refine ⟨?_, by simp [Part.deep], by simp [Part.size]⟩
    simp only [Part.good]
    have h1 := h.at (c / 7)
    have h2 : sAt S 2 ∈ codes := sAt_mem h.len h.mem (by decide) (by decide)
    have h3 : sAt S (c / 7 % 3) ≤ sAt S 2 := h.last (Int.emod_nonneg _ (by decide)) (Int.emod_lt_of_pos _ (by decide))
    simp [h1, h2, h3]
  · split
    · exact ⟨by simp [Part.good], by simp [Part.deep], by simp [Part.size]⟩
    · split
      · exact ⟨by simp [Part.good], by simp [Part.deep], by simp [Part.size]⟩
      · refine ⟨?_, by simp [Part.deep], by simp [Part.size]⟩
        simp only [Part.good]
        exact decide_eq_true (h.at _)
theorem joinedP_ok {n : Nat} {p l o : Part} {d z : Nat} (hp : OkP p d z) (hd : 1 ≤ d) (hl : OkP l 1 1) (ho : OkP o 1 1) : OkP (joinedP n p l o) (d + 2) (2 * z + 20) := by
  obtain ⟨p1, p2, p3⟩ := hp
  obtain ⟨l1, l2, l3⟩ := hl
  obtain ⟨o1, o2, o3⟩ := ho
  unfold joinedP
  split <;> refine ⟨?_, ?_, ?_⟩ <;> simp only [Part.good, Part.goods, Part.deep, Part.deeps, Part.size, Part.sizes, p1, l1, o1, List.isEmpty] <;> first | rfl | omega
theorem piledP_ok {S : List Nat} (h : OkS S) (c : Int) (names : List Str) (first : Nat) : OkP (piledP c S names first) 7 200 := by
  unfold piledP
  have step : ∀ (st : Int × Part) (t d z : Nat), OkP st.2 d z → 1 ≤ d → OkP (turnP S names first st t).2 (d + 2) (2 * z + 20) := fun st t d z hs hd => joinedP_ok hs hd (leafP_ok h _ _ _) (leafP_ok h _ _ _)
  have h0 := leafP_ok h (num0 c / 5) names first
  have h1 := step (num0 c, leafP (num0 c / 5) S names first) 0 1 1 h0 (by decide)
  have h2 := step _ 1 3 22 h1 (by decide)
  have h3 := step _ 2 5 64 h2 (by decide)
  obtain ⟨a, b, cc⟩ := h3
  exact ⟨a, b, Nat.le_trans cc (by decide)⟩
end G

set_option Elab.async false
set_option linter.all false
set_option maxRecDepth 100000
set_option maxHeartbeats 2000000
/-! What is drawn makes a grammar: the rules asked. -/
namespace G
open PySem PySem.Spec PyProof.Rows L2
theorem leafP_rules (c : Int) (S : List Nat) (names : List Str) (first : Nat) : ∀ s ∈ (leafP c S names first).rules, s ∈ names.drop first := fun s hs => by
  unfold leafP at hs
  split at hs
  · simp [Part.rules] at hs
  · split at hs
    · simp [Part.rules] at hs
    · split at hs
      · rename_i h
        simp only [Part.rules, List.mem_singleton] at hs
        subst hs
        have h1 := Int.emod_lt_of_pos (c / 7) (show (0 : Int) < ((names.length : Nat) - (first : Nat) : Int) by omega)
        have h2 := Int.emod_nonneg (c / 7) (show ((names.length : Nat) - (first : Nat) : Int) ≠ 0 by omega)
        obtain ⟨m, hm⟩ : ∃ m : Nat, (c / 7 % ((names.length : Nat) - (first : Nat) : Int)).toNat = m := ⟨_, rfl⟩
        rw [hm]
        have hlt : first + m < names.length := by omega
        rw [List.getD_eq_getElem?_getD, List.getElem?_eq_getElem hlt]
        rw [List.mem_iff_getElem?]
        exact ⟨m, by rw [List.getElem?_drop, List.getElem?_eq_getElem hlt]; rfl⟩
      · simp [Part.rules] at hs
theorem joinedP_rules (n : Nat) (p l o : Part) (X : Str → Prop) (hp : ∀ s ∈ p.rules, X s) (hl : ∀ s ∈ l.rules, X s) (ho : ∀ s ∈ o.rules, X s) : ∀ s ∈ (joinedP n p l o).rules, X s := fun s hs => by
  unfold joinedP at hs
  split at hs <;> simp only [Part.rules, Part.ruless, List.mem_append, List.append_nil, List.not_mem_nil, or_false, false_or] at hs <;>
    (have := hp s; have := hl s; have := ho s; grind)
theorem piledP_rules (c : Int) (S : List Nat) (names : List Str) (first : Nat) : ∀ s ∈ (piledP c S names first).rules, s ∈ names.drop first := by
  unfold piledP
  have step : ∀ (st : Int × Part) (t : Nat), (∀ s ∈ st.2.rules, s ∈ names.drop first) → ∀ s ∈ (turnP S names first st t).2.rules, s ∈ names.drop first := fun st t h => joinedP_rules _ _ _ _ _ h (leafP_rules _ _ _ _) (leafP_rules _ _ _ _)
  exact step _ 2 (step _ 1 (step (num0 c, leafP (num0 c / 5) S names first) 0 (leafP_rules _ _ _ _)))
theorem sureP_cases (c : Int) (S : List Nat) : sureP c S = .sign (sAt S (c % 3)) ∨ sureP c S = .span (sAt S 0) (sAt S 2) ∨ sureP c S = .any := by
  unfold sureP
  obtain ⟨m, hm⟩ : ∃ m : Nat, (c / 3 % 3).toNat = m := ⟨_, rfl⟩
  rw [hm]
  match m with
  | 0 => exact .inl rfl
  | 1 => exact .inr (.inl rfl)
  | 2 => exact .inr (.inr rfl)
  | m + 3 => exact .inr (.inr rfl)
theorem bodyP_cases (c : Int) (k : Nat) (S : List Nat) (names : List Str) : bodyP c k S names = .or [headP c S names, tailP c k S names] ∨ bodyP c k S names = .or [tailP c k S names, headP c S names] ∨ bodyP c k S names = headP c S names ∨ bodyP c k S names = tailP c k S names := by
  unfold bodyP
  have h0 := Int.emod_lt_of_pos (c * 16807 % 10007) (show (0 : Int) < 4 by decide)
  have h1 := Int.emod_nonneg (c * 16807 % 10007) (show (4 : Int) ≠ 0 by decide)
  obtain ⟨m, hm⟩ : ∃ m : Nat, (c * 16807 % 10007 % 4).toNat = m := ⟨_, rfl⟩
  rw [hm]
  match m, hm with
  | 0, _ => exact .inl rfl
  | 1, _ => exact .inr (.inl rfl)
  | 2, _ => exact .inr (.inr (.inl rfl))
  | 3, _ => exact .inr (.inr (.inr rfl))
  | m + 4, hm => omega
theorem headP_ok {S : List Nat} (h : OkS S) (c : Int) (names : List Str) : OkP (headP c S names) 8 300 := by
  obtain ⟨p1, p2, p3⟩ := piledP_ok h (c + 1) names 0
  have h2 : sAt S 2 ∈ codes := sAt_mem h.len h.mem (by decide) (by decide)
  have h3 : sAt S 0 ∈ codes := sAt_mem h.len h.mem (by decide) (by decide)
  have h4 : sAt S 0 ≤ sAt S 2 := h.last (by decide) (by decide)
  unfold headP
  rcases sureP_cases c S with e | e | e <;> rw [e] <;> refine ⟨?_, ?_, ?_⟩ <;> simp only [Part.good, Part.goods, Part.deep, Part.deeps, Part.size, Part.sizes, p1, h2, h3, h4, h.at] <;> first | rfl | omega | simp
theorem tailP_ok {S : List Nat} (h : OkS S) (c : Int) (k : Nat) (names : List Str) : OkP (tailP c k S names) 7 200 := piledP_ok h _ _ _
theorem partP_ok {S : List Nat} (h : OkS S) (c : Int) (k : Nat) (names : List Str) : OkP (partP c k S names) 12 1000 := by
  obtain ⟨p1, p2, p3⟩ := headP_ok h c names
  obtain ⟨t1, t2, t3⟩ := tailP_ok h c k names
  have hb : OkP (bodyP c k S names) 9 700 := by
    rcases bodyP_cases c k S names with e | e | e | e <;> rw [e] <;> refine ⟨?_, ?_, ?_⟩ <;> (try simp only [Part.good, Part.goods, Part.deep, Part.deeps, Part.size, Part.sizes, p1, t1, List.isEmpty]) <;> first | rfl | assumption | omega
  obtain ⟨b1, b2, b3⟩ := hb
  unfold partP
  split <;> refine ⟨?_, ?_, ?_⟩ <;> (try simp only [Part.good, Part.goods, Part.deep, Part.deeps, Part.size, Part.sizes, b1, List.isEmpty]) <;> first | rfl | assumption | omega
theorem headP_rules (c : Int) (S : List Nat) (names : List Str) : ∀ s ∈ (headP c S names).rules, s ∈ names := fun s hs => by
  have h1 := piledP_rules (c + 1) S names 0 s
  unfold headP at hs
  rcases sureP_cases c S with e | e | e <;> rw [e] at hs <;> simp only [Part.rules, Part.ruless, List.nil_append, List.append_nil] at hs <;> simpa using h1 hs
theorem headP_ahead (E : Str → Bool) (c : Int) (S : List Nat) (names : List Str) : (headP c S names).ahead E = [] := by
  unfold headP
  rcases sureP_cases c S with e | e | e <;> rw [e] <;> simp [Part.ahead, Part.aheadRow, Part.may]
theorem partP_rules (c : Int) (k : Nat) (S : List Nat) (names : List Str) : ∀ s ∈ (partP c k S names).rules, s ∈ names := fun s hs => by
  have h1 := headP_rules c S names s
  have h2 : s ∈ (tailP c k S names).rules → s ∈ names := fun h => List.mem_of_mem_drop (piledP_rules _ _ _ _ s h)
  have hb : s ∈ (bodyP c k S names).rules → s ∈ names := fun h => by
    rcases bodyP_cases c k S names with e | e | e | e <;> rw [e] at h
    · simp only [Part.rules, Part.ruless, List.mem_append, List.append_nil] at h
      exact h.elim h1 h2
    · simp only [Part.rules, Part.ruless, List.mem_append, List.append_nil] at h
      exact h.elim h2 h1
    · exact h1 h
    · exact h2 h
  unfold partP at hs
  split at hs
  · simp only [Part.rules, Part.ruless, List.append_nil] at hs
    exact hb hs
  · exact hb hs
theorem partP_ahead (E : Str → Bool) (c : Int) (k : Nat) (S : List Nat) (names : List Str) : ∀ s ∈ (partP c k S names).ahead E, s ∈ names.drop (laterOf k names.length) := fun s hs => by
  have h2 : s ∈ (tailP c k S names).ahead E → s ∈ names.drop (laterOf k names.length) := fun h => piledP_rules _ _ _ _ s (ahead_rules E _ s h)
  have h1 := headP_ahead E c S names
  have hb : s ∈ (bodyP c k S names).ahead E → s ∈ names.drop (laterOf k names.length) := fun h => by
    rcases bodyP_cases c k S names with e | e | e | e <;> rw [e] at h
    · simp only [Part.ahead, Part.aheadOr, h1, List.nil_append, List.append_nil] at h
      exact h2 h
    · simp only [Part.ahead, Part.aheadOr, h1, List.append_nil] at h
      exact h2 h
    · rw [h1] at h; cases h
    · exact h2 h
  unfold partP at hs
  split at hs
  · simp only [Part.ahead, Part.aheadRow, Part.aheadOr, List.append_nil] at hs
    simp at hs
    exact hb hs
  · exact hb hs
/-! the whole -/
theorem rulesOf_fst (ns : List Int) : (rulesOf ns).map (·.1) = G.namesOf ns := by
  unfold rulesOf G.namesOf
  rw [List.map_map]
  rfl
theorem rulesOf_mem {ns : List Int} {r : Str × Part} (h : r ∈ rulesOf ns) : ∃ k, k < manyOf (cell ns 2) ∧ (G.namesOf ns)[k]? = some r.1 ∧ r.2 = partP (cell ns (3 + (k : Nat)) + 7919 * (k : Nat)) k (signsL (cell ns 0)) (G.namesOf ns) := by
  unfold rulesOf at h
  obtain ⟨k, hk, rfl⟩ := List.mem_map.mp h
  have hk' := List.mem_range.mp hk
  refine ⟨k, hk', ?_, rfl⟩
  unfold G.namesOf
  rw [List.getElem?_map, List.getElem?_range hk']
  rfl
theorem namesOf_nd (ns : List Int) : (G.namesOf ns).Nodup := by
  unfold G.namesOf
  rw [List.Nodup, List.pairwise_map]
  refine List.Pairwise.imp_of_mem (R := (· ≠ ·)) (fun {a b} ha hb hne e => ?_) (List.nodup_range)
  have h1 := (many_le' (cell ns 2)).2
  exact hne (nameL_inj (Nat.lt_of_lt_of_le (List.mem_range.mp ha) h1) (Nat.lt_of_lt_of_le (List.mem_range.mp hb) h1) (mk_inj e))
theorem rulesOf_valid (ns : List Int) : Valid ((rulesOf ns).map fun r => (.str r.1, r.2.dt)) (rulesOf ns) where
  eq := rfl
  nd := by rw [rulesOf_fst]; exact namesOf_nd ns
  nm := fun r hr => by
    unfold rulesOf at hr
    obtain ⟨k, hk, rfl⟩ := List.mem_map.mp hr
    exact nameL_ok (Nat.lt_of_lt_of_le (List.mem_range.mp hk) (many_le' _).2)
  pt := fun r hr => by
    obtain ⟨k, _, _, e⟩ := rulesOf_mem hr
    rw [e]
    exact ⟨(partP_ok (signsL_ok _) _ _ _).good, (partP_ok (signsL_ok _) _ _ _).deep⟩
theorem rulesOf_size {ns : List Int} {r : Str × Part} (h : r ∈ rulesOf ns) : r.2.size ≤ 1000 := by
  obtain ⟨k, _, _, e⟩ := rulesOf_mem h
  rw [e]
  exact (partP_ok (signsL_ok _) _ _ _).size
theorem rulesOf_len (ns : List Int) : (rulesOf ns).length = manyOf (cell ns 2) := by unfold rulesOf; rw [List.length_map, List.length_range]
theorem rulesOf_known (ns : List Int) : Known (rulesOf ns) := fun r hr s hs => by
  obtain ⟨k, _, _, e⟩ := rulesOf_mem hr
  rw [rulesOf_fst]
  rw [e] at hs
  exact partP_rules _ _ _ _ s hs
theorem nodup_at {l : List Str} (h : l.Nodup) {i j : Nat} {s : Str} (h1 : l[i]? = some s) (h2 : l[j]? = some s) : i = j := by
  obtain ⟨a, b⟩ := List.getElem?_eq_some_iff.mp h1
  obtain ⟨c, d⟩ := List.getElem?_eq_some_iff.mp h2
  exact (List.getElem_inj h).mp (b.trans d.symm)
theorem rulesOf_noring (ns : List Int) (E : List Str) : ¬ Rings (rulesOf ns) E := by
  have step : ∀ s l t k, (s, l) ∈ aheads (rulesOf ns) E → t ∈ l → (G.namesOf ns)[k]? = some s → ∃ j, k < j ∧ (G.namesOf ns)[j]? = some t := fun s l t k h ht hk => by
    obtain ⟨r, hr, e⟩ := List.mem_map.mp h
    cases e
    obtain ⟨k', _, hk', e⟩ := rulesOf_mem hr
    have := nodup_at (namesOf_nd ns) hk hk'
    subst this
    rw [e] at ht
    have h1 := partP_ahead _ _ _ _ _ t ht
    obtain ⟨i, hi⟩ := List.mem_iff_getElem?.mp h1
    rw [List.getElem?_drop] at hi
    exact ⟨_, by unfold laterOf; omega, hi⟩
  have main : ∀ s t, Reach (aheads (rulesOf ns) E) s t → ∀ k, (G.namesOf ns)[k]? = some s → ∃ j, k < j ∧ (G.namesOf ns)[j]? = some t := fun s t h => by
    induction h with
    | one hl ht => exact fun k hk => step _ _ _ k hl ht hk
    | more _ hl hu ih =>
      intro k hk
      obtain ⟨j, h1, h2⟩ := ih k hk
      obtain ⟨j', h3, h4⟩ := step _ _ _ j hl hu h2
      exact ⟨j', by omega, h4⟩
  rintro ⟨r, hr, h⟩
  obtain ⟨k, _, hk, _⟩ := rulesOf_mem hr
  obtain ⟨j, h1, h2⟩ := main _ _ h k hk
  have := nodup_at (namesOf_nd ns) hk h2
  omega
end G

set_option Elab.async false
set_option linter.all false
set_option maxRecDepth 100000
set_option maxHeartbeats 2000000
/-! Parts may be compared. -/
namespace G
open PySem PySem.Spec PyProof.Rows L2
def okT (s : Str) : Bool := PyData.canLay0 (.str s)
def eqOk (d : Dt) (n : Nat) : Prop := clD d = true ∧ (pyD d).canLay0 = true ∧ (pyD d).depth ≤ n
theorem eqOk.okE {d : Dt} {n : Nat} (h : eqOk d n) (hn : n ≤ 64) : okE d = true := by
  unfold G.okE SeqAt.shaped
  rw [h.1, h.2.1, decide_eq_true (Nat.le_trans h.2.2 hn)]
  rfl
theorem eqOk.mono {d : Dt} {n k : Nat} (h : eqOk d n) (hk : n ≤ k) : eqOk d k := ⟨h.1, h.2.1, Nat.le_trans h.2.2 hk⟩
theorem eqOk_str {s : Str} (h : okT s = true) : eqOk (.str s) 1 := by
  refine ⟨by simp [clD], ?_, ?_⟩
  · rw [pyD]; exact h
  · rw [pyD]; simp [PyData.depth]
def eqOks (ds : List Dt) (n : Nat) : Prop := clDs ds = true ∧ PyData.canLayAll0 (ds.map pyD) = true ∧ PyData.depthAll (ds.map pyD) ≤ n
theorem eqOks_nil {n : Nat} : eqOks [] n := ⟨by simp [clDs], by simp [PyData.canLayAll0], by simp [PyData.depthAll]⟩
theorem eqOks_cons {d : Dt} {ds : List Dt} {n : Nat} (h : eqOk d n) (hs : eqOks ds n) : eqOks (d :: ds) n := by
  refine ⟨?_, ?_, ?_⟩
  · rw [clDs, h.1, hs.1]; rfl
  · rw [List.map_cons, PyData.canLayAll0, h.2.1, hs.2.1]; rfl
  · rw [List.map_cons, PyData.depthAll]
    exact Nat.max_le.mpr ⟨h.2.2, hs.2.2⟩
theorem eqOk_tup {ds : List Dt} {n : Nat} (h : eqOks ds n) : eqOk (.tup ds) (n + 1) := by
  refine ⟨?_, ?_, ?_⟩
  · rw [clD]; exact h.1
  · rw [pyD_tup, PyData.canLay0]; exact h.2.1
  · rw [pyD_tup, PyData.depth]
    have := h.2.2
    omega
theorem eqOk_lst {ds : List Dt} {n : Nat} (h : eqOks ds n) : eqOk (.lst ds) (n + 1) := by
  refine ⟨?_, ?_, ?_⟩
  · rw [clD]; exact h.1
  · rw [pyD_lst, PyData.canLay0]; exact h.2.1
  · rw [pyD_lst, PyData.depth]
    have := h.2.2
    omega
theorem okT_lt {l : List Nat} (h : ∀ x ∈ l, x < 128) : okT (mk l) = true := by
  unfold okT mk
  rw [PyData.canLay0]
  show (⟨l.toArray⟩ : Str).cps.all (· < 0x110000) = true
  rw [Array.all_eq_true]
  intro i hi
  have := h l[i] (List.getElem_mem (by simpa using hi))
  simp only [List.getElem_toArray, decide_eq_true_eq]
  omega
theorem codes_lt : ∀ c ∈ codes, c < 128 := by decide
theorem okT_sg {c : Nat} (h : c ∈ codes) : okT (sg c) = true := okT_lt (l := [c]) fun x hx => by simp at hx; subst hx; exact codes_lt _ h
theorem okT_w : okT "sign" = true ∧ okT "span" = true ∧ okT "any" = true ∧ okT "row" = true ∧ okT "or" = true ∧ okT "many" = true ∧ okT "not" = true ∧ okT "rule" = true := by
  refine ⟨?_, ?_, ?_, ?_, ?_, ?_, ?_, ?_⟩ <;> (unfold okT; rw [PyData.canLay0]; decide +kernel)
theorem one1 {d : Dt} {n : Nat} (h : eqOk d n) : eqOks [d] n := eqOks_cons h eqOks_nil
mutual
theorem eqOk_dt : ∀ p : Part, p.good = true → (∀ s ∈ p.rules, okT s = true) → eqOk p.dt (2 * p.deep + 1)
  | .sign c, hg, _ => by
    have h1 : c ∈ codes := by simpa [Part.good] using hg
    rw [Part.dt]
    simp only [Part.deep]
    exact eqOk_tup (eqOks_cons ((eqOk_str okT_w.1).mono (by omega)) (one1 ((eqOk_str (okT_sg h1)).mono (by omega))))
  | .span a b, hg, _ => by
    simp only [Part.good, Bool.and_eq_true, decide_eq_true_eq] at hg
    rw [Part.dt]
    simp only [Part.deep]
    exact eqOk_tup (eqOks_cons ((eqOk_str okT_w.2.1).mono (by omega)) (eqOks_cons ((eqOk_str (okT_sg hg.1.1)).mono (by omega)) (one1 ((eqOk_str (okT_sg hg.1.2)).mono (by omega)))))
  | .any, _, _ => by
    rw [Part.dt]
    simp only [Part.deep]
    exact eqOk_tup (one1 ((eqOk_str okT_w.2.2.1).mono (by omega)))
  | .row ps, hg, hr => by
    simp only [Part.good] at hg
    rw [Part.dt]
    simp only [Part.deep]
    exact (eqOk_tup (eqOks_cons ((eqOk_str okT_w.2.2.2.1).mono (by omega)) (one1 (eqOk_tup (eqOks_dts ps hg (by rw [Part.rules] at hr; exact hr)))))).mono (by omega)
  | .or ps, hg, hr => by
    simp only [Part.good, Bool.and_eq_true] at hg
    rw [Part.dt]
    simp only [Part.deep]
    exact (eqOk_tup (eqOks_cons ((eqOk_str okT_w.2.2.2.2.1).mono (by omega)) (one1 (eqOk_tup (eqOks_dts ps hg.2 (by rw [Part.rules] at hr; exact hr)))))).mono (by omega)
  | .many p, hg, hr => by
    simp only [Part.good] at hg
    rw [Part.dt]
    simp only [Part.deep]
    exact (eqOk_tup (eqOks_cons ((eqOk_str okT_w.2.2.2.2.2.1).mono (by omega)) (one1 (eqOk_dt p hg (by rw [Part.rules] at hr; exact hr))))).mono (by omega)
  | .not p, hg, hr => by
    simp only [Part.good] at hg
    rw [Part.dt]
    simp only [Part.deep]
    exact (eqOk_tup (eqOks_cons ((eqOk_str okT_w.2.2.2.2.2.2.1).mono (by omega)) (one1 (eqOk_dt p hg (by rw [Part.rules] at hr; exact hr))))).mono (by omega)
  | .rule s, _, hr => by
    rw [Part.dt]
    simp only [Part.deep]
    exact eqOk_tup (eqOks_cons ((eqOk_str okT_w.2.2.2.2.2.2.2).mono (by omega)) (one1 ((eqOk_str (hr s (by simp [Part.rules]))).mono (by omega))))
theorem eqOks_dts : ∀ ps : List Part, Part.goods ps = true → (∀ s ∈ Part.ruless ps, okT s = true) → eqOks (Part.dts ps) (2 * Part.deeps ps + 1)
  | [], _, _ => by rw [Part.dts]; exact eqOks_nil
  | p :: ps, hg, hr => by
    rw [Part.goods, Bool.and_eq_true] at hg
    have h1 := eqOk_dt p hg.1 (fun s hs => hr s (by rw [Part.ruless, List.mem_append]; exact .inl hs))
    have h2 := eqOks_dts ps hg.2 (fun s hs => hr s (by rw [Part.ruless, List.mem_append]; exact .inr hs))
    rw [Part.dts, Part.deeps]
    exact eqOks_cons (h1.mono (by omega)) ⟨h2.1, h2.2.1, Nat.le_trans h2.2.2 (by omega)⟩
end
theorem okD_str {s : Str} (h : s.length ≤ 100000) : okD (.str s) = true := by rw [okD]; exact decide_eq_true h
theorem okD_tup2 {ds : List Dt} (h : okDs ds = true) (hl : ds.length ≤ 100000) : okD (.tup ds) = true := by rw [okD, h, decide_eq_true hl]; rfl
theorem okD_w : okD (.str "sign") = true ∧ okD (.str "span") = true ∧ okD (.str "any") = true ∧ okD (.str "row") = true ∧ okD (.str "or") = true ∧ okD (.str "many") = true ∧ okD (.str "not") = true ∧ okD (.str "rule") = true := by
  refine ⟨?_, ?_, ?_, ?_, ?_, ?_, ?_, ?_⟩ <;> exact okD_str (by decide +kernel)
theorem okDs_c {d : Dt} {ds : List Dt} (h : okD d = true) (hs : okDs ds = true) : okDs (d :: ds) = true := by rw [okDs, h, hs]; rfl
theorem okDs_n : okDs [] = true := by rw [okDs]
mutual
theorem okD_dt : ∀ p : Part, p.size ≤ 100000 → (∀ s ∈ p.rules, s.length ≤ 100000) → okD p.dt = true
  | .sign c, _, _ => by rw [Part.dt]; exact okD_tup2 (okDs_c okD_w.1 (okDs_c (okD_str (by show 1 ≤ 100000; decide)) okDs_n)) (by show 2 ≤ 100000; decide)
  | .span a b, _, _ => by rw [Part.dt]; exact okD_tup2 (okDs_c okD_w.2.1 (okDs_c (okD_str (by show 1 ≤ 100000; decide)) (okDs_c (okD_str (by show 1 ≤ 100000; decide)) okDs_n))) (by show 3 ≤ 100000; decide)
  | .any, _, _ => by rw [Part.dt]; exact okD_tup2 (okDs_c okD_w.2.2.1 okDs_n) (by show 1 ≤ 100000; decide)
  | .row ps, hz, hr => by
    rw [Part.size] at hz
    rw [Part.rules] at hr
    have h1 := okDs_dts ps (by omega) hr
    have h2 := Part.length_le_sizes ps
    rw [Part.dt]
    exact okD_tup2 (okDs_c okD_w.2.2.2.1 (okDs_c (okD_tup2 h1 (by rw [Part.dts_map, List.length_map]; omega)) okDs_n)) (by show 2 ≤ 100000; decide)
  | .or ps, hz, hr => by
    rw [Part.size] at hz
    rw [Part.rules] at hr
    have h1 := okDs_dts ps (by omega) hr
    have h2 := Part.length_le_sizes ps
    rw [Part.dt]
    exact okD_tup2 (okDs_c okD_w.2.2.2.2.1 (okDs_c (okD_tup2 h1 (by rw [Part.dts_map, List.length_map]; omega)) okDs_n)) (by show 2 ≤ 100000; decide)
  | .many p, hz, hr => by
    rw [Part.size] at hz
    rw [Part.rules] at hr
    rw [Part.dt]
    exact okD_tup2 (okDs_c okD_w.2.2.2.2.2.1 (okDs_c (okD_dt p (by omega) hr) okDs_n)) (by show 2 ≤ 100000; decide)
  | .not p, hz, hr => by
    rw [Part.size] at hz
    rw [Part.rules] at hr
    rw [Part.dt]
    exact okD_tup2 (okDs_c okD_w.2.2.2.2.2.2.1 (okDs_c (okD_dt p (by omega) hr) okDs_n)) (by show 2 ≤ 100000; decide)
  | .rule s, _, hr => by
    rw [Part.dt]
    exact okD_tup2 (okDs_c okD_w.2.2.2.2.2.2.2 (okDs_c (okD_str (hr s (by simp [Part.rules]))) okDs_n)) (by show 2 ≤ 100000; decide)
theorem okDs_dts : ∀ ps : List Part, Part.sizes ps ≤ 100000 → (∀ s ∈ Part.ruless ps, s.length ≤ 100000) → okDs (Part.dts ps) = true
  | [], _, _ => by rw [Part.dts]; exact okDs_n
  | p :: ps, hz, hr => by
    rw [Part.sizes] at hz
    rw [Part.dts]
    exact okDs_c (okD_dt p (by omega) (fun s hs => hr s (by rw [Part.ruless, List.mem_append]; exact .inl hs))) (okDs_dts ps (by omega) (fun s hs => hr s (by rw [Part.ruless, List.mem_append]; exact .inr hs)))
end
end G

set_option Elab.async false
set_option linter.all false
set_option maxRecDepth 100000
set_option maxHeartbeats 2000000
/-! Parts may be compared. -/
namespace G
open PySem PySem.Spec PyProof.Rows L2
theorem namesOf_okT (ns : List Int) : ∀ s ∈ G.namesOf ns, okT s = true := fun s hs => by
  unfold G.namesOf at hs
  obtain ⟨k, hk, rfl⟩ := List.mem_map.mp hs
  refine okT_lt fun x hx => ?_
  have := (nameL_az (st := cell ns 0 + cell ns 2) (c := cell ns (3 + (k : Nat))) (Nat.lt_of_lt_of_le (List.mem_range.mp hk) (many_le' _).2)).2.2 x hx
  omega
theorem rulesOf_eqOk {ns : List Int} {r : Str × Part} (h : r ∈ rulesOf ns) : eqOk r.2.dt 25 := by
  have hk := rulesOf_known ns r h
  have hv := (rulesOf_valid ns).pt r h
  exact (eqOk_dt r.2 hv.1 (fun s hs => namesOf_okT ns s (by rw [← rulesOf_fst]; exact hk s hs))).mono (by omega)
theorem rulesOf_all {ns : List Int} : eqOk (.lst ((rulesOf ns).map fun x => .tup [.str x.1, x.2.dt])) 27 := by
  refine eqOk_lst (n := 26) ?_
  have : ∀ l : Rules, (∀ r ∈ l, r ∈ rulesOf ns) → eqOks (l.map fun x => .tup [.str x.1, x.2.dt]) 26 := fun l => by
    induction l with
    | nil => exact fun _ => eqOks_nil
    | cons x l ih =>
      intro h
      have hx := h x List.mem_cons_self
      rw [List.map_cons]
      refine eqOks_cons (eqOk_tup (n := 25) (eqOks_cons ((eqOk_str (namesOf_okT ns x.1 ?_)).mono (by omega)) (one1 (rulesOf_eqOk hx)))) (ih fun r hr => h r (List.mem_cons_of_mem _ hr))
      rw [← rulesOf_fst]
      exact List.mem_map.mpr ⟨x, hx, rfl⟩
  exact this _ fun r hr => hr
theorem namesOf_len {ns : List Int} : ∀ s ∈ G.namesOf ns, s.length ≤ 12 := fun s hs => by
  unfold G.namesOf at hs
  obtain ⟨k, hk, rfl⟩ := List.mem_map.mp hs
  exact (nameL_az (st := cell ns 0 + cell ns 2) (c := cell ns (3 + (k : Nat))) (Nat.lt_of_lt_of_le (List.mem_range.mp hk) (many_le' _).2)).2.1
theorem rulesOf_okD {ns : List Int} {r : Str × Part} (h : r ∈ rulesOf ns) : okD (.str r.1) = true ∧ okD r.2.dt = true := by
  refine ⟨okD_str (Nat.le_trans (namesOf_len r.1 (by rw [← rulesOf_fst]; exact List.mem_map.mpr ⟨r, h, rfl⟩)) (by decide)), okD_dt _ (Nat.le_trans (rulesOf_size h) (by decide)) fun s hs => Nat.le_trans (namesOf_len s (by rw [← rulesOf_fst]; exact rulesOf_known ns r h s hs)) (by decide)⟩
end G

set_option Elab.async false
set_option linter.all false
set_option maxRecDepth 100000
set_option maxHeartbeats 2000000
/-! Notes, in plain Lean: the words of a part, and reading them back. -/
namespace G
open PySem PySem.Spec PyProof.Rows L2
abbrev numS (n : Nat) : Str := Str.ofString (toString ((n : Nat) : Int))
mutual
def wordsP : Part → List Str
  | .any => ["any"]
  | .sign c => ["sign", numS c]
  | .span a b => ["span", numS a, numS b]
  | .rule s => ["rule", s]
  | .many p => "many" :: wordsP p
  | .not p => "not" :: wordsP p
  | .row ps => "row" :: numS ps.length :: wordsPs ps
  | .or ps => "or" :: numS ps.length :: wordsPs ps
def wordsPs : List Part → List Str
  | [] => []
  | p :: ps => wordsP p ++ wordsPs ps
end
def digitsS : Str := "0123456789"
def isFig (w : Str) : Bool := w.cps.toList.all fun c => decide (c ∈ digitsS.cps.toList)
def numW (w : Str) : Option Nat :=
  if 4 < w.length ∨ isFig w = false ∨ (w.cps.toList.head? = some 48 ∧ 1 < w.length) then none else some (NumText.digitsVal w.cps.toList)
def wordAt (ws : List Str) (i : Nat) : Option Str := match ws[i]? with
  | some w => if w = ("" : Str) then none else some w
  | none => none
def numAt (ws : List Str) (i : Nat) : Option Nat := (wordAt ws i).bind numW
def signAt (ws : List Str) (i : Nat) : Option Nat := (numAt ws i).bind fun n => if n ∈ codes then some n else none
def leafAt (ws : List Str) (i : Nat) : Option (Option (Part × Nat)) := (wordAt ws i).bind fun w =>
  if w = ("any" : Str) then some (some (.any, i + 1))
  else if w = ("sign" : Str) then (signAt ws (i + 1)).map fun c => some (.sign c, i + 2)
  else if w = ("span" : Str) then (signAt ws (i + 1)).bind fun a => (signAt ws (i + 2)).map fun b => some (.span a b, i + 3)
  else if w = ("rule" : Str) then (wordAt ws (i + 1)).map fun s => some (.rule s, i + 2)
  else some none
/-- an open part: its word, how many are wanted, those that came -/
abbrev Op := Str × Nat × List Part
def openAt (ws : List Str) (i : Nat) : Option (Op × Nat) := (wordAt ws i).bind fun w =>
  if w = ("many" : Str) ∨ w = ("not" : Str) then some ((w, 1, []), i + 1)
  else if w = ("row" : Str) ∨ w = ("or" : Str) then (numAt ws (i + 1)).map fun n => ((w, n, []), i + 2)
  else none
def closedP (f : Op) : Part :=
  if f.1 = ("many" : Str) then .many (f.2.2.headD .any) else if f.1 = ("not" : Str) then .not (f.2.2.headD .any)
  else if f.1 = ("row" : Str) then .row f.2.2 else .or f.2.2
def pushF (p : Part) : List Op → List Op
  | (w, n, ps) :: r => (w, n, ps ++ [p]) :: r
  | [] => []
theorem pushF_len (p : Part) (st : List Op) : (pushF p st).length = st.length := by cases st <;> rfl
def closeF : List Op → List Op
  | f :: g :: r => if f.2.2.length = f.2.1 then closeF (pushF (closedP f) (g :: r)) else f :: g :: r
  | st => st
termination_by st => st.length
decreasing_by rw [pushF_len]; exact Nat.lt_succ_self _
def doneF : List Op → Bool
  | [f] => decide (1 ≤ f.2.2.length)
  | _ => false
def stepF (ws : List Str) (i : Nat) (st : List Op) : Option (Nat × List Op) := (leafAt ws i).bind fun o => match o with
  | some pj => some (pj.2, closeF (pushF pj.1 st))
  | none => (openAt ws i).map fun fj => (fj.2, closeF (fj.1 :: st))
def baseP : List Op → Part
  | [f] => f.2.2.headD .any
  | _ => .any
def parseF (ws : List Str) : Nat → Nat → List Op → Option (Nat × Part)
  | 0, i, st => if doneF st = true then some (i, baseP st) else none
  | n + 1, i, st => if doneF st = true then some (i, baseP st) else (stepF ws i st).bind fun s => parseF ws n s.1 s.2
def start0 : List Op := [("whole", 1, [])]
def partOf (ws : List Str) : Option Part := (parseF ws ws.length 0 start0).bind fun r => if r.1 < ws.length then none else some r.2
/-! how far a step goes -/
theorem wordAt_lt {ws : List Str} {i : Nat} {w : Str} (h : wordAt ws i = some w) : ws[i]? = some w ∧ w ≠ ("" : Str) ∧ i < ws.length := by
  unfold wordAt at h
  split at h
  · rename_i w' hw
    split at h
    · cases h
    · rename_i hne
      cases h
      exact ⟨hw, hne, (List.getElem?_eq_some_iff.mp hw).1⟩
  · cases h
theorem numAt_lt {ws : List Str} {i n : Nat} (h : numAt ws i = some n) : i < ws.length := by
  unfold numAt at h
  obtain ⟨w, hw, _⟩ := Option.bind_eq_some_iff.mp h
  exact (wordAt_lt hw).2.2
theorem signAt_lt {ws : List Str} {i n : Nat} (h : signAt ws i = some n) : i < ws.length := by
  unfold signAt at h
  obtain ⟨w, hw, _⟩ := Option.bind_eq_some_iff.mp h
  exact numAt_lt hw
theorem leafAt_lt {ws : List Str} {i j : Nat} {p : Part} (h : leafAt ws i = some (some (p, j))) : i < j ∧ j ≤ ws.length := by
  unfold leafAt at h
  obtain ⟨w, hw, h⟩ := Option.bind_eq_some_iff.mp h
  have h0 := (wordAt_lt hw).2.2
  split at h
  · cases h; exact ⟨by omega, by omega⟩
  · split at h
    · obtain ⟨c, hc, h⟩ := Option.map_eq_some_iff.mp h
      have := signAt_lt hc
      cases h
      exact ⟨by omega, by omega⟩
    · split at h
      · obtain ⟨a, ha, h⟩ := Option.bind_eq_some_iff.mp h
        obtain ⟨c, hc, h⟩ := Option.map_eq_some_iff.mp h
        have := signAt_lt hc
        cases h
        exact ⟨by omega, by omega⟩
      · split at h
        · obtain ⟨c, hc, h⟩ := Option.map_eq_some_iff.mp h
          have := (wordAt_lt hc).2.2
          cases h
          exact ⟨by omega, by omega⟩
        · cases h
theorem openAt_lt {ws : List Str} {i j : Nat} {f : Op} (h : openAt ws i = some (f, j)) : i < j ∧ j ≤ ws.length := by
  unfold openAt at h
  obtain ⟨w, hw, h⟩ := Option.bind_eq_some_iff.mp h
  have h0 := (wordAt_lt hw).2.2
  split at h
  · cases h; exact ⟨by omega, by omega⟩
  · split at h
    · obtain ⟨c, hc, h⟩ := Option.map_eq_some_iff.mp h
      have := numAt_lt hc
      cases h
      exact ⟨by omega, by omega⟩
    · cases h
theorem stepF_lt {ws : List Str} {i j : Nat} {st st' : List Op} (h : stepF ws i st = some (j, st')) : i < j ∧ j ≤ ws.length := by
  unfold stepF at h
  obtain ⟨o, ho, h⟩ := Option.bind_eq_some_iff.mp h
  cases o with
  | some pj =>
    cases h
    exact leafAt_lt ho
  | none =>
    obtain ⟨fj, hf, h⟩ := Option.map_eq_some_iff.mp h
    cases h
    exact openAt_lt hf
/-! reading back -/
/-! what may be written and read back -/
mutual
def canW : Part → Bool
  | .sign c => decide (c ∈ codes)
  | .span a b => decide (a ∈ codes) && decide (b ∈ codes)
  | .any => true
  | .row ps => decide (ps.length < 128) && canWs ps
  | .or ps => decide (ps.length < 128) && canWs ps
  | .many p => canW p
  | .not p => canW p
  | .rule s => decide (s ≠ ("" : Str))
def canWs : List Part → Bool
  | [] => true
  | p :: ps => canW p && canWs ps
end
theorem num_back : ∀ n < 128, numW (numS n) = some n ∧ numS n ≠ ("" : Str) := by decide +kernel
theorem word_at {ws post : List Str} {w : Str} {i : Nat} (h : ws.drop i = w :: post) (hw : w ≠ ("" : Str)) : wordAt ws i = some w := by
  have h1 : ws[i]? = some w := by
    have := congrArg (fun l : List Str => l[0]?) h
    simpa using this
  unfold wordAt
  rw [h1]
  simp only [if_neg hw]
theorem drop_next {ws post : List Str} {w : Str} {i : Nat} (h : ws.drop i = w :: post) : ws.drop (i + 1) = post := by
  rw [← List.drop_drop, h]
  rfl
theorem drop_app {ws a post : List Str} {i : Nat} (h : ws.drop i = a ++ post) : ws.drop (i + a.length) = post := by
  rw [← List.drop_drop, h, List.drop_left]
theorem num_at {ws post : List Str} {i n : Nat} (h : ws.drop i = numS n :: post) (hn : n < 128) : numAt ws i = some n := by
  unfold numAt
  rw [word_at h (num_back n hn).2]
  exact (num_back n hn).1
theorem code_lt {c : Nat} (h : c ∈ codes) : c < 128 := codes_lt c h
theorem sign_at {ws post : List Str} {i n : Nat} (h : ws.drop i = numS n :: post) (hn : n ∈ codes) : signAt ws i = some n := by
  unfold signAt
  rw [num_at h (code_lt hn)]
  simp only [Option.bind_some, if_pos hn]
theorem w_ne : ("any" : Str) ≠ "" ∧ ("sign" : Str) ≠ "" ∧ ("span" : Str) ≠ "" ∧ ("rule" : Str) ≠ "" ∧ ("many" : Str) ≠ "" ∧ ("not" : Str) ≠ "" ∧ ("row" : Str) ≠ "" ∧ ("or" : Str) ≠ "" := by
  refine ⟨?_, ?_, ?_, ?_, ?_, ?_, ?_, ?_⟩ <;> decide +kernel
theorem closeF_two {f g : Op} {r : List Op} (h : f.2.2.length = f.2.1) : closeF (f :: g :: r) = closeF (pushF (closedP f) (g :: r)) := by
  rw [closeF, if_pos h]
theorem closeF_open {f g : Op} {r : List Op} (h : ¬ f.2.2.length = f.2.1) : closeF (f :: g :: r) = f :: g :: r := by
  rw [closeF, if_neg h]
theorem closeF_one (f : Op) : closeF [f] = [f] := by rw [closeF]; intro f g r; simp
theorem parse_step {ws : List Str} {n i j : Nat} {st st' : List Op} (hd : doneF st = false) (h : stepF ws i st = some (j, st')) : parseF ws (n + 1) i st = parseF ws n j st' := by
  rw [parseF, if_neg (by rw [hd]; exact Bool.false_ne_true), h]
  rfl
theorem step_leaf {ws : List Str} {i j : Nat} {st : List Op} {p : Part} (h : leafAt ws i = some (some (p, j))) : stepF ws i st = some (j, closeF (pushF p st)) := by
  unfold stepF
  rw [h]
  rfl
theorem step_open {ws : List Str} {i j : Nat} {st : List Op} {f : Op} (h : leafAt ws i = some none) (h2 : openAt ws i = some (f, j)) : stepF ws i st = some (j, closeF (f :: st)) := by
  unfold stepF
  rw [h, h2]
  rfl
theorem not_leaf {ws post : List Str} {w : Str} {i : Nat} (h : ws.drop i = w :: post) (hw : w ≠ ("" : Str)) (h1 : w ≠ "any") (h2 : w ≠ "sign") (h3 : w ≠ "span") (h4 : w ≠ "rule") : leafAt ws i = some none := by
  unfold leafAt
  rw [word_at h hw]
  simp only [Option.bind_some, if_neg h1, if_neg h2, if_neg h3, if_neg h4]
mutual
theorem read_part : ∀ (p : Part), canW p = true → ∀ {ws post : List Str} {i : Nat} {st : List Op}, doneF st = false → st ≠ [] → ws.drop i = wordsP p ++ post →
    ∃ k, 1 ≤ k ∧ k ≤ (wordsP p).length ∧ ∀ n, k ≤ n → parseF ws n i st = parseF ws (n - k) (i + (wordsP p).length) (closeF (pushF p st))
  | .any, _, ws, post, i, st, hd, hne, h => by
    rw [wordsP] at h ⊢
    refine ⟨1, by decide, by simp, fun n hn => ?_⟩
    obtain ⟨n, rfl⟩ : ∃ m, n = m + 1 := ⟨n - 1, by omega⟩
    rw [parse_step hd (step_leaf (p := .any) (j := i + 1) (by unfold leafAt; rw [word_at h w_ne.1]; simp))]
    rfl
  | .sign c, hc, ws, post, i, st, hd, hne, h => by
    rw [canW, decide_eq_true_eq] at hc
    rw [wordsP] at h ⊢
    refine ⟨1, by decide, by simp, fun n hn => ?_⟩
    obtain ⟨n, rfl⟩ : ∃ m, n = m + 1 := ⟨n - 1, by omega⟩
    rw [parse_step hd (step_leaf (p := .sign c) (j := i + 2) (by
      unfold leafAt
      rw [word_at h w_ne.2.1]
      simp [sign_at (drop_next h) hc]))]
    rfl
  | .span a b, hc, ws, post, i, st, hd, hne, h => by
    rw [canW, Bool.and_eq_true, decide_eq_true_eq, decide_eq_true_eq] at hc
    rw [wordsP] at h ⊢
    refine ⟨1, by decide, by simp, fun n hn => ?_⟩
    obtain ⟨n, rfl⟩ : ∃ m, n = m + 1 := ⟨n - 1, by omega⟩
    rw [parse_step hd (step_leaf (p := .span a b) (j := i + 3) (by
      unfold leafAt
      rw [word_at h w_ne.2.2.1]
      have h3 : ws.drop (i + 2) = numS b :: post := drop_next (drop_next h)
      simp [sign_at (drop_next h) hc.1, sign_at h3 hc.2]))]
    rfl
  | .rule s, hc, ws, post, i, st, hd, hne, h => by
    rw [canW, decide_eq_true_eq] at hc
    rw [wordsP] at h ⊢
    refine ⟨1, by decide, by simp, fun n hn => ?_⟩
    obtain ⟨n, rfl⟩ : ∃ m, n = m + 1 := ⟨n - 1, by omega⟩
    rw [parse_step hd (step_leaf (p := .rule s) (j := i + 2) (by
      unfold leafAt
      rw [word_at h w_ne.2.2.2.1]
      simp [word_at (drop_next h) hc]))]
    rfl
  | .many p, hc, ws, post, i, st, hd, hne, h => by
    rw [canW] at hc
    rw [wordsP] at h
    obtain ⟨g, r, rfl⟩ : ∃ g r, st = g :: r := by cases st with | nil => exact absurd rfl hne | cons g r => exact ⟨g, r, rfl⟩
    obtain ⟨k, hk1, hk2, hk⟩ := read_part p hc (ws := ws) (post := post) (i := i + 1) (st := (("many", 1, []) : Op) :: g :: r) rfl (by simp) (drop_next h)
    have ho : closeF ((("many", 1, []) : Op) :: g :: r) = (("many", 1, []) : Op) :: g :: r := closeF_open (f := ("many", 1, [])) (by simp)
    refine ⟨k + 1, by omega, by rw [wordsP, List.length_cons]; omega, fun n hn => ?_⟩
    obtain ⟨n, rfl⟩ : ∃ m, n = m + 1 := ⟨n - 1, by omega⟩
    have hst : stepF ws i (g :: r) = some (i + 1, closeF ((("many", 1, []) : Op) :: g :: r)) := step_open (not_leaf h w_ne.2.2.2.2.1 (by simp) (by simp) (by simp) (by simp)) (by
      unfold openAt
      rw [word_at h w_ne.2.2.2.2.1]
      simp)
    rw [parse_step hd hst, ho, hk n (by omega)]
    rw [show n + 1 - (k + 1) = n - k by omega, wordsP, List.length_cons]
    show parseF ws _ _ (closeF ((("many", 1, [p]) : Op) :: g :: r)) = _
    rw [closeF_two (f := ("many", 1, [p])) rfl]
    have : closedP ("many", 1, [p]) = .many p := by unfold closedP; simp
    rw [this, show i + 1 + (wordsP p).length = i + ((wordsP p).length + 1) by omega]
  | .not p, hc, ws, post, i, st, hd, hne, h => by
    rw [canW] at hc
    rw [wordsP] at h
    obtain ⟨g, r, rfl⟩ : ∃ g r, st = g :: r := by cases st with | nil => exact absurd rfl hne | cons g r => exact ⟨g, r, rfl⟩
    obtain ⟨k, hk1, hk2, hk⟩ := read_part p hc (ws := ws) (post := post) (i := i + 1) (st := (("not", 1, []) : Op) :: g :: r) rfl (by simp) (drop_next h)
    have ho : closeF ((("not", 1, []) : Op) :: g :: r) = (("not", 1, []) : Op) :: g :: r := closeF_open (f := ("not", 1, [])) (by simp)
    refine ⟨k + 1, by omega, by rw [wordsP, List.length_cons]; omega, fun n hn => ?_⟩
    obtain ⟨n, rfl⟩ : ∃ m, n = m + 1 := ⟨n - 1, by omega⟩
    have hst : stepF ws i (g :: r) = some (i + 1, closeF ((("not", 1, []) : Op) :: g :: r)) := step_open (not_leaf h w_ne.2.2.2.2.2.1 (by simp) (by simp) (by simp) (by simp)) (by
      unfold openAt
      rw [word_at h w_ne.2.2.2.2.2.1]
      simp)
    rw [parse_step hd hst, ho, hk n (by omega)]
    rw [show n + 1 - (k + 1) = n - k by omega, wordsP, List.length_cons]
    show parseF ws _ _ (closeF ((("not", 1, [p]) : Op) :: g :: r)) = _
    rw [closeF_two (f := ("not", 1, [p])) rfl]
    have : closedP ("not", 1, [p]) = .not p := by unfold closedP; simp
    rw [this, show i + 1 + (wordsP p).length = i + ((wordsP p).length + 1) by omega]
  | .row ps, hc, ws, post, i, st, hd, hne, h => by
    rw [canW, Bool.and_eq_true, decide_eq_true_eq] at hc
    rw [wordsP] at h
    have h1 : ws.drop (i + 1) = numS ps.length :: (wordsPs ps ++ post) := drop_next h
    obtain ⟨k, hk1, hk2, hk⟩ := read_parts ps hc.2 (w := "row") (N := ps.length) (acc := []) (ws := ws) (post := post) (i := i + 2) (st := st) hne (by simp) (drop_next h1)
    refine ⟨k + 1, by omega, by rw [wordsP, List.length_cons, List.length_cons]; omega, fun n hn => ?_⟩
    obtain ⟨n, rfl⟩ : ∃ m, n = m + 1 := ⟨n - 1, by omega⟩
    have hst : stepF ws i st = some (i + 2, closeF (("row", ps.length, []) :: st)) := step_open (not_leaf h w_ne.2.2.2.2.2.2.1 (by simp) (by simp) (by simp) (by simp)) (by
      unfold openAt
      rw [word_at h w_ne.2.2.2.2.2.2.1]
      simp [num_at h1 hc.1])
    rw [parse_step hd hst, hk n (by omega), List.nil_append]
    rw [show n + 1 - (k + 1) = n - k by omega, wordsP, List.length_cons, List.length_cons]
    obtain ⟨g, r, rfl⟩ : ∃ g r, st = g :: r := by cases st with | nil => exact absurd rfl hne | cons g r => exact ⟨g, r, rfl⟩
    rw [closeF_two (f := ("row", ps.length, ps)) rfl]
    have : closedP ("row", ps.length, ps) = .row ps := by unfold closedP; simp
    rw [this, show i + 2 + (wordsPs ps).length = i + ((wordsPs ps).length + 1 + 1) by omega]
  | .or ps, hc, ws, post, i, st, hd, hne, h => by
    rw [canW, Bool.and_eq_true, decide_eq_true_eq] at hc
    rw [wordsP] at h
    have h1 : ws.drop (i + 1) = numS ps.length :: (wordsPs ps ++ post) := drop_next h
    obtain ⟨k, hk1, hk2, hk⟩ := read_parts ps hc.2 (w := "or") (N := ps.length) (acc := []) (ws := ws) (post := post) (i := i + 2) (st := st) hne (by simp) (drop_next h1)
    refine ⟨k + 1, by omega, by rw [wordsP, List.length_cons, List.length_cons]; omega, fun n hn => ?_⟩
    obtain ⟨n, rfl⟩ : ∃ m, n = m + 1 := ⟨n - 1, by omega⟩
    have hst : stepF ws i st = some (i + 2, closeF (("or", ps.length, []) :: st)) := step_open (not_leaf h w_ne.2.2.2.2.2.2.2 (by simp) (by simp) (by simp) (by simp)) (by
      unfold openAt
      rw [word_at h w_ne.2.2.2.2.2.2.2]
      simp [num_at h1 hc.1])
    rw [parse_step hd hst, hk n (by omega), List.nil_append]
    rw [show n + 1 - (k + 1) = n - k by omega, wordsP, List.length_cons, List.length_cons]
    obtain ⟨g, r, rfl⟩ : ∃ g r, st = g :: r := by cases st with | nil => exact absurd rfl hne | cons g r => exact ⟨g, r, rfl⟩
    rw [closeF_two (f := ("or", ps.length, ps)) rfl]
    have : closedP ("or", ps.length, ps) = .or ps := by unfold closedP; simp
    rw [this, show i + 2 + (wordsPs ps).length = i + ((wordsPs ps).length + 1 + 1) by omega]
theorem read_parts : ∀ (ps : List Part), canWs ps = true → ∀ {w : Str} {N : Nat} {acc : List Part} {ws post : List Str} {i : Nat} {st : List Op}, st ≠ [] → acc.length + ps.length = N → ws.drop i = wordsPs ps ++ post →
    ∃ k, 0 ≤ k ∧ k ≤ (wordsPs ps).length ∧ ∀ n, k ≤ n → parseF ws n i (closeF ((w, N, acc) :: st)) = parseF ws (n - k) (i + (wordsPs ps).length) (closeF ((w, N, acc ++ ps) :: st))
  | [], _, w, N, acc, ws, post, i, st, hne, hN, h => ⟨0, Nat.le_refl _, Nat.zero_le _, fun n _ => by rw [List.append_nil, wordsPs]; rfl⟩
  | p :: ps, hc, w, N, acc, ws, post, i, st, hne, hN, h => by
    rw [canWs, Bool.and_eq_true] at hc
    rw [wordsPs, List.append_assoc] at h
    obtain ⟨g, r, rfl⟩ : ∃ g r, st = g :: r := by cases st with | nil => exact absurd rfl hne | cons g r => exact ⟨g, r, rfl⟩
    rw [List.length_cons] at hN
    have ho : closeF ((w, N, acc) :: g :: r) = (w, N, acc) :: g :: r := closeF_open (f := (w, N, acc)) (by show ¬ acc.length = N; omega)
    obtain ⟨k1, a1, b1, c1⟩ := read_part p hc.1 (ws := ws) (post := wordsPs ps ++ post) (i := i) (st := (w, N, acc) :: g :: r) rfl (by simp) h
    obtain ⟨k2, a2, b2, c2⟩ := read_parts ps hc.2 (w := w) (N := N) (acc := acc ++ [p]) (ws := ws) (post := post) (i := i + (wordsP p).length) (st := g :: r) (by simp) (by rw [List.length_append, List.length_singleton]; omega) (drop_app h)
    refine ⟨k1 + k2, Nat.zero_le _, by rw [wordsPs, List.length_append]; omega, fun n hn => ?_⟩
    rw [ho, c1 n (by omega)]
    show parseF ws (n - k1) _ (closeF ((w, N, acc ++ [p]) :: g :: r)) = _
    rw [c2 (n - k1) (by omega), List.append_assoc, wordsPs, List.length_append, show n - k1 - k2 = n - (k1 + k2) by omega, show i + (wordsP p).length + (wordsPs ps).length = i + ((wordsP p).length + (wordsPs ps).length) by omega]
    rfl
end
theorem partOf_words {p : Part} (h : canW p = true) : partOf (wordsP p) = some p := by
  obtain ⟨k, h1, h2, h3⟩ := read_part p h (ws := wordsP p) (post := []) (i := 0) (st := start0) rfl (by decide) (by rw [List.append_nil]; rfl)
  unfold partOf
  rw [h3 _ h2, Nat.zero_add]
  have e : closeF (pushF p start0) = [(("whole", 1, [p]) : Op)] := by
    show closeF [(("whole", 1, [] ++ [p]) : Op)] = _
    rw [closeF_one]
    rfl
  rw [e]
  have e2 : ∀ n i, parseF (wordsP p) n i [(("whole", 1, [p]) : Op)] = some (i, p) := fun n i => by
    cases n <;> rfl
  rw [e2]
  simp
/-! the rows -/
def rowP (row : Str) : Option (Str × Part) :=
  if (Txt.split row " ").length < 3 ∨ (Txt.split row " ").getD 0 "" = ("" : Str) ∨ (Txt.split row " ").getD 1 "" ≠ ("=" : Str) then none
  else (partOf ((Txt.split row " ").drop 2)).map fun p => ((Txt.split row " ").getD 0 "", p)
def rowsP : List Str → Option Rules
  | [] => some []
  | r :: rs => (rowP r).bind fun x => (rowsP rs).map fun xs => x :: xs
theorem rowsP_snoc (rs : List Str) (r : Str) : rowsP (rs ++ [r]) = (rowsP rs).bind fun xs => (rowP r).map fun x => xs ++ [x] := by
  induction rs with
  | nil =>
    show (rowP r).bind (fun x => (some []).map fun xs => x :: xs) = (some []).bind _
    cases rowP r <;> rfl
  | cons a rs ih =>
    show (rowP a).bind (fun x => (rowsP (rs ++ [r])).map fun xs => x :: xs) = ((rowP a).bind fun x => (rowsP rs).map fun xs => x :: xs).bind _
    rw [ih]
    cases rowP a with
    | none => rfl
    | some x =>
      cases rowsP rs with
      | none => rfl
      | some xs => cases rowP r <;> rfl
theorem rowsP_none {rs : List Str} {i : Nat} {r : Str} (h : rs[i]? = some r) (hr : rowP r = none) : rowsP rs = none := by
  induction rs generalizing i with
  | nil => cases h
  | cons a rs ih =>
    cases i with
    | zero =>
      have e : a = r := by simpa using h
      subst e
      show (rowP a).bind _ = none
      rw [hr]
      rfl
    | succ i =>
      have := ih (i := i) (by simpa using h)
      show (rowP a).bind (fun x => (rowsP rs).map fun xs => x :: xs) = none
      rw [this]
      cases rowP a <;> rfl
def rowT (r : Str × Part) : Str := Txt.join " " (r.1 :: "=" :: wordsP r.2)
def textT (rules : Rules) : Str := Txt.join "\n" (rules.map rowT)
end G

set_option Elab.async false
set_option linter.all false
set_option maxRecDepth 100000
set_option maxHeartbeats 4000000
namespace G
open PySem PySem.Spec PyProof.Rows L2
section
variable {X : Cx} {F : Hp} {δ δ1 : Sl} {e a b c tg iter elt : Expr} {es ifs : List Expr} {d x y z : Dt} {ds : List Dt} {rest : List Stmt} {O : Out → Prop} {pos spos p py px : Pos} {n nm : Str} {scope : Scope} {L : List (Addr × HO)} {Γ : Gm} {N : List Str} {sc : Scope}
/-- name = [.. for ..], on one line -/
theorem s_setLc0 {α : Type} {l : List α} {g0 : α → Dt} [B : Bd X Γ N sc] [Bf X] (j i : Nat) (f : α → Dt) (hI : IterD X F L (.Name n px) iter δ (l.map g0)) (h0 : δ.s[i]? = some none) (he : ∀ d ∈ l, InB Γ N sc scope fun X' => EvD X' F elt (δ.set i (some (g0 d))) (f d)) (hz : l.length < sizeLine)
    (hr : SD X F rest (δ.set j (some (.lst (l.map f)))) O) (hL : ∀ p ∈ L, (p.1, Md.lck p.2) ∈ δ.m := by exact fun _ h => nomatch h)
    (ok : blkC N sc scope [(n, i)] = true := by decide +kernel) (hi : N[i]? = some n := by rfl) (hx : (relS scope sc).names.lookup n = some .local := by decide +kernel)
    (hs : ∀ x, foldedSetIterable iter X.env x = pure x := by intro _; rfl)
    (hy : N[j]? = some nm := by rfl) (hyl : sc.names.lookup nm = some .local := by decide +kernel) (hk : sc.kind = .function := by rfl) (hl : (py.line == pos.line) = true := by rfl) (ha : (scope.names.any fun (n, k) => n == nm && (k == .local || k == .cell)) = false := by decide +kernel) :
    SD X F (.Assign [.Name nm py] (.ListComp elt [⟨.Name n px, iter, [], 0⟩] scope pos) spos :: rest) δ O := fun F1 H σ D W s t cc p =>
  wss (pss_cons (ps_setLc (i := j) (own := [(n, i)]) (g := gName i) (tt := tYes) (te := TWE Γ N sc scope elt) B.calm (by rw [B.hN]; exact B.nd) (by rw [B.hN]; exact hy) (by rw [B.hsc]; exact hyl) (sw_true (by rw [B.hsc]; exact hk) (by rw [B.hsc]; exact hyl) hl ha) pi (by rw [B.hN, B.hsc]; exact blkOk_by ok) (fun s H C cl fp => pg_name (X := X.blk s H scope (compEnvC scope cl C X.env) fp) (by show X.N.Nodup; rw [B.hN]; exact B.nd) (by show X.N[i]? = some n; rw [B.hN]; exact hi) (.inl (by rw [B.blk.hsc]; exact hx)) (.inr (by rw [B.blk.hsc]; exact hx))) (fun _ _ _ _ _ => pts_nil) (fun s H C cl fp => ⟨fun pins s' σ H' Q I h => (h _ B.blk).go pins s' I⟩) hs) pss)
    (lc_main (scope := scope) (WI X (.Name n px) iter) (fun F1 H σ R s c k => hI F1 H σ R s c k) h0 hz (fun _ => true) f hL (fun d _ F1 H σ Q s c k => k F1 H (.refl c.st)) (fun d hd _ => he d hd) F1 H σ (fun v H' => WSs X rest D (σ.set j (some v)) H') s cc (by
      rw [List.filter_eq_self.mpr (fun _ _ => rfl)]
      exact fun D' F' H' _ e => frz_k (Q := fun v H' => WSs X rest D (σ.set j (some v)) H') (fun v F2 H2 e2 r2 => hr F2 H2 _ D W (s.trans e2.ff) t ((cc.ext e2).set j r2) fun o ho => (p o ho).ext e2) e))
theorem s_setLc1 {α : Type} {l : List α} {g0 : α → Dt} [B : Bd X Γ N sc] [Bf X] (j i : Nat) (g : α → Bool) (f : α → Dt) (hI : IterD X F L (.Name n px) iter δ (l.map g0)) (h0 : δ.s[i]? = some none) (ht : ∀ d ∈ l, InB Γ N sc scope fun X' => EtD X' F c (δ.set i (some (g0 d))) (g d)) (he : ∀ d ∈ l, g d = true → InB Γ N sc scope fun X' => EvD X' F elt (δ.set i (some (g0 d))) (f d)) (hz : l.length < sizeLine)
    (hr : SD X F rest (δ.set j (some (.lst ((l.filter g).map f)))) O) (hL : ∀ p ∈ L, (p.1, Md.lck p.2) ∈ δ.m := by exact fun _ h => nomatch h)
    (ok : blkC N sc scope [(n, i)] = true := by decide +kernel) (hi : N[i]? = some n := by rfl) (hx : (relS scope sc).names.lookup n = some .local := by decide +kernel)
    (hs : ∀ x, foldedSetIterable iter X.env x = pure x := by intro _; rfl)
    (hy : N[j]? = some nm := by rfl) (hyl : sc.names.lookup nm = some .local := by decide +kernel) (hk : sc.kind = .function := by rfl) (hl : (py.line == pos.line) = true := by rfl) (ha : (scope.names.any fun (n, k) => n == nm && (k == .local || k == .cell)) = false := by decide +kernel) :
    SD X F (.Assign [.Name nm py] (.ListComp elt [⟨.Name n px, iter, [c], 0⟩] scope pos) spos :: rest) δ O := fun F1 H σ D W s t cc p =>
  wss (pss_cons (ps_setLc (i := j) (own := [(n, i)]) (g := gName i) (tt := TWT Γ N sc scope c) (te := TWE Γ N sc scope elt) B.calm (by rw [B.hN]; exact B.nd) (by rw [B.hN]; exact hy) (by rw [B.hsc]; exact hyl) (sw_true (by rw [B.hsc]; exact hk) (by rw [B.hsc]; exact hyl) hl ha) pi (by rw [B.hN, B.hsc]; exact blkOk_by ok) (fun s H C cl fp => pg_name (X := X.blk s H scope (compEnvC scope cl C X.env) fp) (by show X.N.Nodup; rw [B.hN]; exact B.nd) (by show X.N[i]? = some n; rw [B.hN]; exact hi) (.inl (by rw [B.blk.hsc]; exact hx)) (.inr (by rw [B.blk.hsc]; exact hx))) (fun s H C cl fp => pts_one ⟨fun pins s' σ H' Q I h => (h _ B.blk).go pins s' I⟩) (fun s H C cl fp => ⟨fun pins s' σ H' Q I h => (h _ B.blk).go pins s' I⟩) hs) pss)
    (lc_main (scope := scope) (WI X (.Name n px) iter) (fun F1 H σ R s c k => hI F1 H σ R s c k) h0 hz g f hL (fun d hd F1 H σ Q s c k X' B' => ht d hd X' B' F1 H σ Q s c k) he F1 H σ (fun v H' => WSs X rest D (σ.set j (some v)) H') s cc
      (fun D' F' H' _ e => frz_k (Q := fun v H' => WSs X rest D (σ.set j (some v)) H') (fun v F2 H2 e2 r2 => hr F2 H2 _ D W (s.trans e2.ff) t ((cc.ext e2).set j r2) fun o ho => (p o ho).ext e2) e))
end
end G

set_option Elab.async false
set_option linter.all false
set_option maxRecDepth 100000
set_option maxHeartbeats 4000000
/-! Where an exception is handled: calls, isinstance, a comprehension; try with several named clauses. -/
namespace G
open PySem PySem.Spec PyProof.Rows L2
open L2H (RoomH Hot1 PinOk HotC TurnH PIH PIEH)
/-! ### defs that are called there: the promise knows the exception's object -/
abbrev SpE := Addr × Obj → List V → Hp → VK → Prop
structure FnE (P : Program) (w : World) (K : PySem.W.Frag) (mg : Str → Option Value) (base : Heap) (k : Nat) (f : Addr) (fd : FuncData) (ps : List Str) (sp : SpE) : Prop where
  len : ∀ p vs H Q, sp p vs H Q → vs.length = ps.length
  run : ∀ (A : Around) (outer : List Env) (s : Shared) (H : Hp) (args : Args) (us : List Value) (vs : List V) (Q : VK) (p : Addr × Obj), RoomH k A → Hot1 A p → PinOk outer H s p → Env0 P w K mg base A outer s H → BindsTo s fd args (ps.zip us) → Vals vs us → sp p vs H Q →
    codeAny (model P w) A (.call (.ref f) args) (CR CX0 outer P w H s Q E0) s
theorem FnE.mono {P : Program} {w : World} {K : PySem.W.Frag} {mg : Str → Option Value} {base : Heap} {j k : Nat} {f : Addr} {fd : FuncData} {ps : List Str} {sp : SpE} (F : FnE P w K mg base j f fd ps sp) (h : j ≤ k) : FnE P w K mg base k f fd ps sp :=
  ⟨F.len, fun A outer s H args us vs Q p hr => F.run A outer s H args us vs Q p (hr.mono h)⟩
section
variable {P : Program} {w : World} {K : PySem.W.Frag} {mg : Str → Option Value} {base : Heap} {x qual : Str} {st : Stmt} {f : Addr} {fd : FuncData} {N ps : List Str} {k : Nat} {sp : SpE}
theorem fn_E (F : Fun K x qual st f fd) (S : FnScope N ps (defScope st)) (len : ∀ p vs H Q, sp p vs H Q → vs.length = ps.length)
    (body : ∀ (cdv : Value) (A : Around) (outer : List Env) (s : Shared) (H : Hp) (vs : List V) (Q : VK) (p : Addr × Obj), Hot1 A p → RoomH k (A.deeper (envOfC qual (defScope st) s.heap.objs.size f cdv)) → sp p vs H Q →
      WSs (L2H.cxH CX0 P w K mg base N qual (defScope st) f cdv A outer s H E0 p) (defBody st) { nx := fun _ H' => Q .non H', rt := Q } (L2.start N vs) H) : FnE P w K mg base (k + 1) f fd ps sp := by
  obtain ⟨_, _, _, _, _, _, cdv, _, _, rfl, lk, hc⟩ := F.ex
  refine ⟨len, fun A outer s H args us vs Q p room hot pin env bd vals ask => ?_⟩
  have hlen := len p vs H Q ask
  have kin : K.In s.heap := e0_kin env
  have free : s.heap.NoLimit := env.mod.nolimit.keeps fun b o e => (env.bs b o e).1
  refine codeAny_call_function room.depth (kin _ _ lk) rfl S.co S.gen rfl (PySem.W.codeRec_of kin hc) (bd _ _ _ _ ?_)
  refine wpAny_newFunctionEnv_cells S.kind (fun y hy => ?_) fun env1 he s1 xx => ?_
  · have hm := (List.of_mem_zip (show (y.1, y.2) ∈ ps.zip us from hy)).1
    rcases S.par y.1 hm with q | q
    · exact Or.inl q
    · exact Or.inr ⟨q, PySem.W.cellsFrom_some _ _ _ (.inl q)⟩
  · subst he
    refine ⟨free.keeps xx.toInCall.keep, codeAny_func ?_⟩
    have J := L2H.inv_startH (CX := CX0) (P := P) (w := w) (K := K) (mg := mg) (base := base) (E := E0) (f := f) (cd := cdv) S pin env hlen vals xx
    refine wpAny_mono ((body cdv A outer s H vs Q p hot (room.deeper _) ask).go [] s1 J) (fun fl s' hs => ?_) fun e s' hs => hs
    cases fl with
    | ret u =>
      obtain ⟨v, σ', H', J', rv, q⟩ := hs
      exact ⟨v, H', J'.os, J'.bare, J'.base, J'.hok, rv, q⟩
    | next =>
      obtain ⟨σ', H', J', q⟩ := hs
      exact ⟨V.non, H', J'.os, J'.bare, J'.base, J'.hok, rfl, q⟩
    | brk => obtain ⟨_, _, _, no⟩ := hs; exact no.elim
    | cont => obtain ⟨_, _, _, no⟩ := hs; exact no.elim
where
  e0_kin {A : Around} {outer : List Env} {s : Shared} {H : Hp} (env : Env0 P w K mg base A outer s H) : K.In s.heap := env.mod.kin.keeps fun b o e => (env.bs b o e).1
end
/-! ### where one stands there -/
class Bh (X : Cx) (Γ : outParam Gm) (N : outParam (List Str)) (sc : outParam Scope) (p : outParam (Addr × Obj)) : Prop where
  prog : X.prog = Γ.P
  w : X.w = Γ.w
  K : X.K = Γ.K
  mg : X.mg = Γ.mg
  base : X.base = Γ.base
  A : X.A = Γ.A
  hN : X.N = N
  hsc : X.env.scope = sc
  nd : N.Nodup
  hot : Hot1 X.A p
  mem : p ∈ X.pn
theorem Bh.gl {X : Cx} {Γ : Gm} {N : List Str} {sc : Scope} {p : Addr × Obj} (B : Bh X Γ N sc p) {n : Str} (h : glB sc n = true) : Gl X n ∧ (n == ("__debug__" : Str)) = false ∧ n ≠ ("__name__" : Str) := by
  have q := glB_ok h
  rw [← B.hsc] at q
  exact q
section
variable {X : Cx} {F : Hp} {δ : Sl} {e a b c tg iter elt : Expr} {es : List Expr} {d x y z : Dt} {ds : List Dt} {Γ : Gm} {N : List Str} {sc scope : Scope} {p : Addr × Obj} {pos pos2 pp : Pos} {n : Str}
theorem h_v [B : Bh X Γ N sc p] (i : Nat) (h : δ.s[i]? = some (some d)) (hN : N[i]? = some n := by rfl) (hv : visB sc n = true := by decide +kernel) : EvD X F (.Name n pos) δ d := fun F1 H σ Q _ c k => by
  obtain ⟨v, h1, h2⟩ := c.slot i d h
  obtain ⟨q1, q2, q3⟩ := visB_ok hv
  exact we (pe_var (by rw [B.hN]; exact hN) (by rw [B.hsc]; exact q1) q2 q3) ⟨v, h1, k v F1 H (.refl c.st) h2⟩
/-- a class of the module, as a value -/
theorem h_cls [B : Bh X Γ N sc p] {C : Addr} (hm : Γ.mg n = some (.ref C)) (hg : glB sc n = true := by decide +kernel) : EvD X F (.Name n pos) δ (.ref C) :=
  fun F1 H σ Q _ cc k => we (pe_glob (v := .ref C) (B.gl hg).1 (by rw [B.mg]; exact hm) rfl (B.gl hg).2.1) (k _ F1 H (.refl cc.st) (.ref C))
theorem h_bty [B : Bh X Γ N sc p] {T : String} (hm : Γ.mg n = none) (hv : bootBuiltins n = some (.type T) := by decide +kernel) (hg : glB sc n = true := by decide +kernel) : EvD X F (.Name n pos) δ (.ty T) :=
  fun F1 H σ Q _ cc k => we (pe_bltn (v := .ty T) (B.gl hg).1 (by rw [B.mg]; exact hm) hv rfl (B.gl hg).2.2 (B.gl hg).2.1) (k _ F1 H (.refl cc.st) (.ty T))
/-- isinstance of the handled exception -/
theorem cr_isE {D : Addr} (C : ExcC X.K D) (hp : p ∈ X.pn) (hz : Zc (.ref D) none p.2) (hf : ∃ vs, p.2.data = .fields vs) : CallR X (.builtin "isinstance") (rIsE X.K D p.1) := by
  intro pins s σ H xs us Q J vals ask
  obtain ⟨cl, cv, ans, rfl, tells, kit, q⟩ := ask
  cases vals with
  | cons r1 r2 =>
    cases r2 with
    | cons r2 r3 =>
      cases r3
      cases r1
      cases tells _ r2
      have at1 := (J.pin p (List.mem_append_left pins hp)).1
      obtain ⟨flds, hv⟩ := hf
      have ins : PySem.W.InstAt s.heap p.1 p.2 D none := by
        obtain ⟨_, ob⟩ := p
        obtain ⟨oc, od, oda, osl⟩ := ob
        obtain ⟨z1, z2⟩ := hz
        dsimp only at z1 z2 hv
        subst z1 z2 hv
        exact ⟨at1, rfl, rfl, trivial⟩
      have kits := PySem.W.handS_kitx_exc (x := p.1) (ox := p.2) C.hg C.hk C.hs C.hd C.ha C.hn C.ht C.hm
      exact PySem.W.kia_one kits J.kIn ins kit (fun q => nomatch q) fun tk => ⟨V.bl ans, H, J.kept (t' := tk) fun _ _ e => e, rfl, q⟩
/-- what is asked of a class by isinstance: an own class, or a built-in one -/
def clsV : Dt → Option Value
  | .ref a => some (.ref a)
  | .ty n => some (.type n)
  | _ => none
theorem h_isE [B : Bh X Γ N sc p] {D : Addr} {cv : Value} {k : Bool} (hm : Γ.mg "isinstance" = none) (C : ExcC Γ.K D) (hz : Zc (.ref D) none p.2) (hf : ∃ vs, p.2.data = .fields vs) (ha : EvD X F a δ (.ref p.1)) (hb : EvD X F b δ y) (hy : clsV y = some cv)
    (hk : PySem.W.kitOne Γ.K (.ref D) cv = some k) (hg : glB sc "isinstance" = true := by decide +kernel) (he : starEach [a, b] X.env = (false, eval a X.env) :: starEach [b] X.env := by first | exact plSt | rfl)
    (he2 : starEach [b] X.env = (false, eval b X.env) :: starEach [] X.env := by first | exact plSt | rfl) (hpl : (backTo pos (starEach [b] X.env)).any (·.1) = false := by rfl) :
    EvD X F (.Call (.Name "isinstance" pp) [a, b] [] pos) δ (.bl k) := fun F1 H σ Q s c q =>
  we (pe_callB (cr_isE (by rw [B.K]; exact C) B.mem hz hf) (B.gl hg).1 (by rw [B.mg]; exact hm) (by decide +kernel) pa (B.gl hg).2.2 (B.gl hg).2.1 he hpl) (a_cons ha (a_one hb he2) he F1 H σ _ s c fun vs F2 H2 e2 r2 => by
    cases r2 with
    | cons r1 r2 =>
      cases r2 with
      | cons r2 r3 =>
        cases r3
        cases r1
        refine ⟨_, cv, k, rfl, fun u ru => ?_, by rw [B.K]; exact hk, q _ F2 H2 e2 (.bl k)⟩
        cases r2 <;> first | (cases hy; done) | (cases hy; exact ru))
theorem h_eqD [B : Bh X Γ N sc p] {k : Nat} (hr : RoomH k Γ.A) (ha : EvD X F a δ x) (hb : EvD X F b δ y) (h : okE x = true) (h' : okE y = true) : EvD X F (.Compare a [.Eq] [b] pos) δ (.bl (PyData.eqv (pyD x) (pyD y))) :=
  d_cmp (op_eqD (by rw [B.A]; have := hr.un; omega)) ha hb (fun m F1 H vx vy Q s s1 rx ry k => by
    unfold okE at h h'
    rw [Bool.and_eq_true] at h h'
    exact ⟨_, _, dp_of s1.sub rx h.1, dp_of s1.sub ry h'.1, h.2, h'.2, k _ F1 H (.refl s1) (.bl _)⟩)
/-! ### calls there -/
/-- a promise by data -/
def spE (pre : Addr × Obj → Hp → List Dt → Dt → Prop) : SpE := fun p vs H Q => ∃ F ds d m, Sta F H m ∧ RepA F vs ds ∧ pre p F ds d ∧ ∀ v F' H', Ex m F H F' H' → Rep F' v d → Q v H'
structure CalE (P : Program) (w : World) (K : PySem.W.Frag) (mg : Str → Option Value) (base : Heap) (k : Nat) (n : Str) (sp : SpE) : Prop where
  ex : ∃ f fd ps, FnE P w K mg base k f fd ps sp ∧ mg n = some (.ref f) ∧ PySem.W.keepIn K (.ref f) = true ∧ Binds K fd ps []
theorem At.calE {P : Program} {w : World} {K : PySem.W.Frag} {mg : Str → Option Value} {base : Heap} {x : Str} {st : Stmt} {ps : List Str} {f : Addr} {fd : FuncData} {k : Nat} {sp : SpE} (a : At K mg x st ps f fd) (g : FnE P w K mg base k f fd ps sp) : CalE P w K mg base k x sp := ⟨f, fd, ps, g, a.mg, a.fn.kp, a.bi⟩
theorem run_E {pins : List (Addr × Obj)} {σ : L2.St} {H : Hp} {s : Shared} {Q : VK} {us : List Value} {vs : List V} {k : Nat} {f : Addr} {fd : FuncData} {ps : List Str} {sp : SpE} (G : FnE X.prog X.w X.K X.mg X.base k f fd ps sp) (hr : RoomH k X.A) (hot : Hot1 X.A p) (hp : p ∈ X.pn) (hb : Binds X.K fd ps [])
    (J : Inv X pins σ H s) (vals : Vals vs us) (ask : sp p vs H Q) : wpAny (model X.prog X.w) X.A (call (.ref f) us) (EP X pins σ Q) X.xe s := by
  have hl : us.length = ps.length := by rw [← vals.length]; exact G.len _ _ _ _ ask
  have bd := hb s us J.kIn (by rw [List.append_nil]; exact hl)
  rw [List.append_nil] at bd
  obtain ⟨p1, p2, p3, p4, p5⟩ := J.pin p (List.mem_append_left pins hp)
  have pin : PinOk X.stack H s p := ⟨p1, p2, fun hm => by
    rcases List.mem_cons.mp (J.stkSub p.1 hm) with q | q
    · exact p3 q
    · exact p4 q, p5⟩
  refine wpAny_call (codeAny_mono (G.run X.A X.stack s H ⟨us, []⟩ us vs Q p hr hot pin J.env0 bd vals ask) fun res s' done => ?_)
  cases res with
  | error err => exact done.elim
  | ok fl =>
    cases fl with
    | ret u => exact J.after done
    | next => exact done.elim
    | brk => exact done.elim
    | cont => exact done.elim
theorem h_call [B : Bh X Γ N sc p] {k : Nat} {pre : Addr × Obj → Hp → List Dt → Dt → Prop} (C : CalE Γ.P Γ.w Γ.K Γ.mg Γ.base k n (spE pre)) (hr : RoomH k Γ.A) (ha : EaD X F (e :: es) δ ds) (hpre : ∀ F1, Same F F1 → pre p F1 ds d)
    (hg : glB sc n = true := by decide +kernel) (he : starEach (e :: es) X.env = (false, eval e X.env) :: starEach es X.env := by first | exact plSt | rfl) (hpl : (backTo pos (starEach es X.env)).any (·.1) = false := by rfl) :
    EvD X F (.Call (.Name n pp) (e :: es) [] pos) δ d := fun F1 H σ Q s c q => by
  obtain ⟨f, fd, ps, g1, g2, g3, g4⟩ := C.ex
  have run : PE X (.Call (.Name n pp) (e :: es) [] pos) (fun σ H Q => WA X (e :: es) σ H fun vs H1 => spE pre p vs H1 Q) := by
    refine ⟨fun pins s σ H Q J ask => ?_⟩
    refine wpAny_Call_Name_kw (ld_glob J (B.gl hg).1 (by rw [B.mg]; exact g2) ?_ (B.gl hg).2.1)
    refine PySem.W.callWith_K (h₀ := X.base) J.ok.mod.kin (by rw [B.K]; exact g3) (thn ((pa (X := X)).run pos pins s σ H _ J ask) fun us s1 ⟨vs, H1, J1, vals, q⟩ => ⟨J1.kIn, ?_⟩) he hpl
    exact run_E (by rw [B.prog, B.w, B.K, B.mg, B.base]; exact g1) (by rw [B.A]; exact hr) B.hot B.mem (by rw [B.K]; exact g4) J1 vals q
  exact we run (ha F1 H σ _ s c fun vs F2 H2 e2 r2 => ⟨F2, ds, d, δ.m, e2.st, r2, hpre F2 (s.trans e2.ff), fun v F3 H3 e3 r3 => q v F3 H3 (e2.trans e3) r3⟩)
theorem fn_Ed {P : Program} {w : World} {K : PySem.W.Frag} {mg : Str → Option Value} {base : Heap} {qual : Str} {st : Stmt} {f : Addr} {fd : FuncData} {N ps : List Str} {k : Nat} {nm : Str} {pre : Addr × Obj → Hp → List Dt → Dt → Prop} (Fn : Fun K nm qual st f fd) (S : FnScope N ps (defScope st)) (len : ∀ p F ds d, pre p F ds d → ds.length = ps.length)
    (body : ∀ (X : Cx) (A : Around) (p : Addr × Obj), Bh X ⟨P, w, K, mg, base, A⟩ N (defScope st) p → RoomH k A → ∀ (F : Hp) (ds : List Dt) (d : Dt), pre p F ds d → SD X F (defBody st) (startD N ds []) (EndD (.ok d))) : FnE P w K mg base (k + 1) f fd ps (spE pre) := by
  refine fn_E Fn S (fun p vs H Q h => ?_) (fun cdv A outer s H vs Q p hot hr h => ?_)
  · obtain ⟨F, ds, d, m, _, ra, hp, _⟩ := h
    rw [ra.length, len p F ds d hp]
  · obtain ⟨F, ds, d, m, sF, ra, hp, q⟩ := h
    refine body _ (A.deeper (envOfC qual (defScope st) s.heap.objs.size f cdv)) p ⟨rfl, rfl, rfl, rfl, rfl, rfl, rfl, rfl, S.nd, hot, List.mem_singleton.mpr rfl⟩ hr F ds d hp F H (L2.start N vs) _ (fun _ _ _ _ => False) (Same.refl F) takesN0 (start_ctx (sF.wk SubP.nil) ra (by rw [len p F ds _ hp]; exact FnScope.len_le S)) fun o ho => ?_
    cases o with
    | ret d' m' => cases ho; exact fun v F' H' e' r' => q v F' H' (Ext.none sF e') r'
    | nx δ => cases ho; exact fun F' H' σ' e' c' => q .non F' H' (Ext.none sF e') .non
    | err C m' => cases ho
    | brk δ => exact ho.elim
    | ct δ => exact ho.elim
end
end G

set_option Elab.async false
set_option linter.all false
set_option maxRecDepth 100000
set_option maxHeartbeats 4000000
/-! A list comprehension over a range, where an exception is handled. -/
namespace G
open PySem PySem.Spec PyProof.Rows L2
open L2H (RoomH Hot1 PinOk HotC TurnH PIH PIEH)
/-- its block, what is pinned staying so -/
abbrev blkP (X : Cx) (s : Shared) (H : Hp) (scope : Scope) (ce : Env) (fp : List Addr) : Cx := (X.blk s H scope ce fp).tr X.pn fun _ _ => False
section
variable {X : Cx}
theorem pe_lcP {elt tg iter : Expr} {scope : Scope} {own : List (Str × Nat)} {pos : Pos} {wi : TI} {g : TG} {te : TE} {p : Addr × Obj} (hot : Hot1 X.A p) (hp : p ∈ X.pn) (hN : X.N.Nodup) (hi : PIH X tg iter wi) (ok : BlkOk X.N X.env.scope scope own)
    (hg : ∀ (s : Shared) (H : Hp) (C : Addr) (cl : List (Str × Addr)) (fp : List Addr), PG (blkP X s H scope (compEnvC scope cl C X.env) fp) tg g)
    (he : ∀ (s : Shared) (H : Hp) (C : Addr) (cl : List (Str × Addr)) (fp : List Addr), PE (blkP X s H scope (compEnvC scope cl C X.env) fp) elt te) (hs : ∀ x, foldedSetIterable iter X.env x = pure x) :
    PE X (.ListComp elt [⟨tg, iter, [], 0⟩] scope pos) (tLc wi g tYes te (own.map (·.2))) := by
  refine ⟨fun pins s σ H Q I0 ask => ?_⟩
  rw [eval_ListComp]
  have cells : ∀ y ∈ scope.names, y.2 = .free → ∃ c, X.env.cells.lookup y.1 = some c := fun y hy e => (ok.free y hy e).elim (fun k => I0.ok.has _ (.inl k)) (fun k => I0.ok.has _ (.inr k))
  refine wpAny_comprehension_free (use := none) rfl hs (closure_ok cells) ok.kind (fun y hy e => (ok.uniq y hy).trans (congrArg some e)) (thn (hi.run pins s σ H _ I0 ask) fun _ s1 h1 => thn h1 fun _ s2 ⟨it, fp, tn, J, H2, hit, I2, T, st2, fpo, more⟩ => ?_)
  subst hit
  refine wpAny_newObj_type (newEnv_comp ?_) (Nat.zero_le _)
  obtain ⟨D, hD⟩ : ∃ D : Addr, D = s2.heap.objs.size := ⟨_, rfl⟩
  rw [← hD]
  obtain ⟨W, ⟨m0, w0⟩, turn⟩ := more D (I2.hok.fresh (Nat.le_of_eq hD.symm))
  -- the list that grows
  obtain ⟨s3, hs3⟩ : ∃ s3 : Shared, s3 = { s2 with heap := s2.heap.push { cls := .type "list", data := .seq ([] : List Value).toArray } } := ⟨_, rfl⟩
  have I3 : Inv X pins σ (upd H2 D (.lst [])) s3 := by
    subst hs3
    exact I2.laid (t' := s2.toks) (fun b o e => Heap.get?_push_of_some _ e) (Nat.le_of_eq hD.symm) ⟨Nat.zero_le _, [], 0, .nil, by subst hD; exact Heap.get?_push_size _ rfl⟩
  have stay : ∀ b o, s2.heap.get? b = some o → s3.heap.get? b = some o := fun b o e => by subst hs3; exact Heap.get?_push_of_some _ e
  have young : ∀ b ∈ fp, b < D := fun b hb => by
    obtain ⟨_, e, _⟩ := T.obj _ _ st2 b hb
    exact hD ▸ Heap.lt_size e
  have size3 : D < s3.heap.objs.size := by subst hs3 hD; rw [Heap.size_push]; exact Nat.lt_succ_self _
  have fp3 : ∀ b ∈ fp, FpOk X pins (upd H2 D (.lst [])) b ∧ b < s3.heap.objs.size := fun b hb => by
    refine ⟨⟨?_, (fpo b hb).2⟩, Nat.lt_trans (young b hb) size3⟩
    rw [upd_ne (Nat.ne_of_lt (young b hb))]
    exact (fpo b hb).1
  have st3 : tn 0 s3.heap := T.keep _ _ _ st2 fun b _ o e => stay b o e
  have B4 := block_start I3 ok hN fp3
  have pgT := hg s3 (upd H2 D (.lst [])) s3.heap.objs.size (cellsFrom (s3.heap.objs.size + 1) scope.names (cloFrom X.env.cells scope.names [])) fp
  have peT := he s3 (upd H2 D (.lst [])) s3.heap.objs.size (cellsFrom (s3.heap.objs.size + 1) scope.names (cloFrom X.env.cells scope.names [])) fp
  suffices main : codeAny (model X.prog X.w) X.A (.compStart (.ListComp elt [⟨tg, iter, [], 0⟩] scope pos) 0 (.ref it) (.ref D) (compEnvC scope (cellsFrom (s3.heap.objs.size + 1) scope.names (cloFrom X.env.cells scope.names [])) s3.heap.objs.size X.env)) (compPost (model X.prog X.w) X.A X.xe none (EP X pins σ Q) (.ref D) s3.heap.objs.size) { s3 with heap := pushCells (s3.heap.push { cls := .type "dict", data := .dict #[] }) scope.names } by
    subst hs3
    exact main
  obtain ⟨ce, hce⟩ : ∃ ce, ce = compEnvC scope (cellsFrom (s3.heap.objs.size + 1) scope.names (cloFrom X.env.cells scope.names [])) s3.heap.objs.size X.env := ⟨_, rfl⟩
  have ceL : ce.locals = s3.heap.objs.size := by subst hce; rfl
  rw [← hce] at B4 pgT peT ⊢
  obtain ⟨H3, hH3⟩ : ∃ H3, H3 = upd H2 D (.lst []) := ⟨_, rfl⟩
  rw [← hH3] at I3 B4 pgT peT w0 fp3
  obtain ⟨s4, hs4⟩ : ∃ s4 : Shared, s4 = { s3 with heap := pushCells (s3.heap.push { cls := .type "dict", data := .dict #[] }) scope.names } := ⟨_, rfl⟩
  rw [← hs4] at B4 ⊢
  have keep4 : ∀ b o, s3.heap.get? b = some o → s4.heap.get? b = some o := fun b o e => by subst hs4; exact pushCells_keeps _ _ _ _ (Heap.get?_push_of_some _ e)
  have st4 : tn 0 s4.heap := T.keep _ _ _ st3 fun b _ o e => keep4 b o e
  -- the block keeps the pins
  have pins4 : ∀ q ∈ X.pn, s4.heap.get? q.1 = some q.2 ∧ H3 q.1 = none ∧ q.1 ≠ ce.locals ∧ q.1 ∉ (X.blk s3 H3 scope ce fp).fs ∧ ∀ v, q.2.data ≠ .cell v := fun q hq => by
    obtain ⟨a1, a2, a3, a4, a5⟩ := I3.pin q (List.mem_append_left pins hq)
    refine ⟨keep4 _ _ a1, a2, ?_, fun hm => ?_, a5⟩
    · rw [ceL]; exact Nat.ne_of_lt (Heap.lt_size a1)
    · rcases List.mem_cons.mp (I3.stkSub q.1 hm) with z | z
      · exact a3 z
      · exact a4 z
  have I4 : Inv (blkP X s3 H3 scope ce fp) [] (wipe σ (own.map (·.2))) H3 s4 := (B4.pins_of (pins' := X.pn) pins4).toTry _
  have hotB : HotC (blkP X s3 H3 scope ce fp) := ⟨p, hot, hp⟩
  have stat : ∀ {σ' : L2.St} {H' : Hp} {s' : Shared}, Inv (blkP X s3 H3 scope ce fp) [] σ' H' s' → (∀ b ∈ fp, H' b = none) → ∀ b ∈ fp, FpOk (blkP X s3 H3 scope ce fp) [] H' b := fun {σ' H' s'} J' hn b hb =>
    ⟨hn b hb, (J'.ok.exf b hb).1, J'.ok.exfs b hb, .inl hb, (J'.ok.exf b hb).2, fun q hq => (fp3 b hb).1.2.2.2.2.2 q (List.mem_append_left pins (by rw [List.append_nil] at hq; exact hq))⟩
  have loop : codeAny (model X.prog X.w) X.A (.compLoop (.ListComp elt [⟨tg, iter, [], 0⟩] scope pos) 0 (.ref it) (.ref D) ce) (compPost (model X.prog X.w) X.A X.xe none (EP X pins σ Q) (.ref D) s3.heap.objs.size) s4 := by
    refine compLoop_any (fun n s' => ∃ i H', Inv (blkP X s3 H3 scope ce fp) [] (wipe σ (own.map (·.2))) H' s' ∧ tn i s'.heap ∧ (∀ b ∈ fp, H' b = none) ∧ W i n H') (fun n s5 hinv => ?_) m0 ⟨0, H3, I4, st4, fun b hb => (fp3 b hb).1.1, w0⟩
    obtain ⟨i, H5, I5, st5, n5, w5⟩ := hinv
    rcases turn i n H5 w5 with ⟨stop, fin⟩ | ⟨go, Nx, hNx, step⟩
    · refine thnF (T.done (blkP X s3 H3 scope ce fp) rfl rfl rfl hotB i [] s5 _ H5 (fun _ _ => False) I5 (stat I5 n5) st5 stop) fun r s6 ⟨hr, I6⟩ => ?_
      subst hr
      have I7 : Inv X pins σ H5 s6 := I3.call' (ch := fp) I6.os I6.base I6.hok I6.bare fun b hb => by
        obtain ⟨_, y1, _, y3, y4, y5⟩ := (fp3 b hb).1
        exact ⟨y3, y1, y4, y5⟩
      obtain ⟨m, hn, _⟩ := I6.loc
      have nC : H5 ce.locals = none := I6.free
      rw [ceL] at nC
      obtain ⟨f0, f1, f2, f3, f4, f5⟩ := I3.fpOk (Nat.le_refl _) nC
      refine ⟨m, by have z : s6.heap.Ns ce.locals m := hn; rw [ceL] at z; exact z, fun h2 sb => ?_⟩
      exact ⟨V.ref D, H5, I7.turned (t' := s6.toks) (fun b o hb e => (sb.2 b hb).trans e) f0 f1 f3 f4 f5, rfl, fin⟩
    · refine thnF (T.item (blkP X s3 H3 scope ce fp) rfl rfl rfl hotB i [] s5 _ H5 (fun _ _ => False) I5 (stat I5 n5) st5 go) fun r s6 ⟨u, hr, h6⟩ => ?_
      subst hr
      refine thnF h6 fun _ s7 ⟨x, H7, I7, r7, y7, st7, n7⟩ => ?_
      have P7 := I7.pinned (stat I7 n7) (T.obj _ _ st7)
      refine thnF (pgT.run _ s7 _ H7 x u _ P7 r7 (step x H7 y7)) fun _ s8 ⟨σ8, H8, I8, same, q8⟩ => ?_
      refine wpAny_tests_nil ?_
      show wpAny _ _ (eval elt ce) _ _ s8
      refine thnF (peT.run _ s8 σ8 H8 _ I8 q8) fun z s9 ⟨yv, H9, I9, r9, acc, hacc, hz, nx⟩ => ?_
      refine app_ok (X := blkP X s3 H3 scope ce fp) I9 hacc hz r9 fun s10 I10 => ?_
      obtain ⟨m', hm, w'⟩ := hNx _ nx
      have still : ∀ b ∈ fp, ∀ o, s7.heap.get? b = some o → s10.heap.get? b = some o ∧ (upd H9 D (.lst (acc ++ [yv]))) b = none := fun b hb o e => by
        have zz := I10.pin (b, o) (List.mem_append_right _ (List.mem_append_right _ (mem_pinsAt hb e)))
        exact ⟨zz.1, zz.2.1⟩
      refine ⟨m', hm, i + 1, _, I10.unpinned.weak (by rw [← same, wipe_length]) (fun j v e => ?_), T.keep _ _ _ st7 fun b hb o e => (still b hb o e).1, fun b hb => ?_, w'⟩
      · rw [← same] at e
        exact (wipe_some e).1
      · obtain ⟨o, e, _⟩ := T.obj _ _ st7 b hb
        exact (still b hb o e).2
  exact codeAny_compStart_list loop (T.self X.A 0 _ _ _ st4 loop)
end
section
variable {X : Cx} {F : Hp} {δ : Sl} {a elt : Expr} {Γ : Gm} {N : List Str} {sc scope : Scope} {p : Addr × Obj} {pos p1 p2 px : Pos} {n : Str}
theorem Bh.blk (B : Bh X Γ N sc p) {s : Shared} {H : Hp} {C : Addr} {cl : List (Str × Addr)} {fp : List Addr} : Bh (blkP X s H scope (compEnvC scope cl C X.env) fp) Γ N (relS scope sc) p where
  prog := B.prog
  w := B.w
  K := B.K
  mg := B.mg
  base := B.base
  A := B.A
  hN := B.hN
  hsc := by
    have e : (compEnvC scope cl C X.env).scope = relS scope X.env.scope := rfl
    show (compEnvC scope cl C X.env).scope = _
    rw [e, B.hsc]
  nd := B.nd
  hot := B.hot
  mem := B.mem
/-- [elt for name in range(j)] -/
theorem h_lcR [B : Bh X Γ N sc p] {j : Int} (i : Nat) (f : Nat → Dt) (hm : Γ.mg "range" = none) (ha : EvD X F a δ (.int j)) (h1 : -(2 ^ 62) ≤ j) (h2 : j < 2 ^ 62) (h0 : δ.s[i]? = some none)
    (he : ∀ k, k < j.toNat → ∀ X' : Cx, Bh X' Γ N (relS scope sc) p → EvD X' F elt (δ.set i (some (.int ((0 : Int) + (k : Nat))))) (f k)) (hz : j.toNat < sizeLine)
    (ok : blkC N sc scope [(n, i)] = true := by decide +kernel) (hi : N[i]? = some n := by rfl) (hx : (relS scope sc).names.lookup n = some .local := by decide +kernel)
    (hg : glB sc "range" = true := by decide +kernel) (hs : starEach [a] X.env = [(false, eval a X.env)] := by rfl)
    (hf : ∀ x, foldedSetIterable (.Call (.Name "range" p1) [a] [] p2) X.env x = pure x := by intro _; rfl) : EvD X F (.ListComp elt [⟨.Name n px, .Call (.Name "range" p1) [a] [] p2, [], 0⟩] scope pos) δ (.lst ((List.range j.toNat).map f)) := fun F1 H σ Q s cc k =>
  we (pe_lcP (own := [(n, i)]) (g := gName i) (te := fun σ H Q => ∀ X' : Cx, Bh X' Γ N (relS scope sc) p → WE X' elt σ H Q) B.hot B.mem (by rw [B.hN]; exact B.nd) (L2H.pi_range1H (B.gl hg).1 (by rw [B.mg]; exact hm) pa hs) (by rw [B.hN, B.hsc]; exact blkOk_by ok)
      (fun s H C cl fp => pg_name (X := blkP X s H scope (compEnvC scope cl C X.env) fp) (by show X.N.Nodup; rw [B.hN]; exact B.nd) (by show X.N[i]? = some n; rw [B.hN]; exact hi) (.inl (by rw [B.blk.hsc]; exact hx)) (.inr (by rw [B.blk.hsc]; exact hx)))
      (fun s H C cl fp => ⟨fun pins s' σ H' Q I h => (h _ B.blk).go pins s' I⟩) hf)
    (lc_main2 (i := i) (δ := δ) (F := F) (f := f) (j := j) (p := p) (Γ := Γ) (N := N) (sc := sc) (scope := scope) ha h1 h2 h0 he hz hs F1 H σ Q s cc k)
where
  lc_main2 {X : Cx} {F : Hp} {δ : Sl} {a elt : Expr} {Γ : Gm} {N : List Str} {sc scope : Scope} {p : Addr × Obj} {i : Nat} {f : Nat → Dt} {j : Int} (ha : EvD X F a δ (.int j)) (h1 : -(2 ^ 62) ≤ j) (h2 : j < 2 ^ 62) (h0 : δ.s[i]? = some none)
      (he : ∀ k, k < j.toNat → ∀ X' : Cx, Bh X' Γ N (relS scope sc) p → EvD X' F elt (δ.set i (some (.int ((0 : Int) + (k : Nat))))) (f k)) (hz : j.toNat < sizeLine) (hs : starEach [a] X.env = [(false, eval a X.env)])
      (F1 H : Hp) (σ : L2.St) (Q : VK) (s : Same F F1) (cc : Ctx F1 H σ δ) (k : ∀ v F' H', Ex δ.m F1 H F' H' → Rep F' v (.lst ((List.range j.toNat).map f)) → Q v H') :
      tLc (iRng1 (WA X [a])) (gName i) tYes (fun σ H Q => ∀ X' : Cx, Bh X' Γ N (relS scope sc) p → WE X' elt σ H Q) [i] σ H Q := by
    refine a_one ha hs F1 H σ _ s cc fun vs F2 H2 e2 r2 => ?_
    cases r2 with
    | cons r1 r2 =>
      cases r2
      cases r1
      refine ⟨j, rfl, h1, h2, fun D hD => ?_⟩
      refine ⟨fun t m H' => m = j.toNat - t ∧ t ≤ j.toNat ∧ LcI δ.m F2 H2 D ((List.range t).map f) H', ⟨j.toNat, by simp, Nat.zero_le _, by simpa using LcI.start e2.st hD⟩, ?_⟩
      rintro t m H' ⟨rfl, ht, LI⟩
      obtain ⟨F', acc, e1, h5, h6, h7⟩ := id LI.ex
      have nD : D ∉ δ.m.ads := e2.st.ads_ne hD
      by_cases hlt : t < j.toNat
      · refine .inr ⟨hlt, fun H'' => LcI δ.m F2 H2 D ((List.range (t + 1)).map f) H'', fun H'' hh => ⟨j.toNat - (t + 1), by omega, rfl, hlt, hh⟩, fun x H'' hy => ?_⟩
        obtain ⟨rfl, hH⟩ := hy
        subst hH
        show L2.wipe ((L2.wipe σ [i]).set i (some _)) [i] = L2.wipe σ [i] ∧ _
        refine ⟨wipe1, ?_⟩
        have ci : Ctx F' H'' ((L2.wipe σ [i]).set i (some (.int (0 + (t : Nat))))) (δ.set i (some (.int ((0 : Int) + (t : Nat))))) := by
          have c0 : Ctx F' H'' σ δ := cc.ext (e2.trans e1)
          exact (c0.wipe h0).set i (.int _)
        show ∀ X' : Cx, Bh X' Γ N (relS scope sc) p → _
        intro X' B'
        refine he t hlt X' B' F' H'' _ _ ((s.trans e2.ff).trans e1.ff) ci fun y F4 H4 e4 r4 => ?_
        have e24 : Ex δ.m F2 H2 F4 H4 := e1.trans e4
        have hD' : H'' D ≠ none := by rw [h6]; exact fun z => (nomatch z)
        refine ⟨acc, e4.hh _ _ h6 nD, ?_, ?_⟩
        · have := h7.length
          rw [List.length_map, List.length_range] at this
          omega
        · have fD : F4 D = none := by rw [e4.new D hD' nD]; exact h5
          refine ⟨F4, acc ++ [y], ⟨e24.ff, fun b o q n => ?_, e24.new, e24.own, ?_, fun p c hp => ?_, e24.st.nd⟩, fD, upd_same, ?_⟩
          · rw [upd_ne (ne_of_none q hD)]; exact e24.hh _ _ q n
          · intro b o q
            rw [upd_ne (ne_of_none q fD)]
            exact e24.sub _ _ q
          · obtain ⟨q1, o, q2, q3⟩ := e24.st.cell p c hp
            have n : p ≠ D := fun e => nD (e ▸ List.mem_map.mpr ⟨_, hp, rfl⟩)
            exact ⟨q1, o, by rw [upd_ne n]; exact q2, q3⟩
          · rw [List.range_succ, List.map_append]
            exact (h7.mono e4.ff).append (.cons r4 .nil)
      · have et : t = j.toNat := by omega
        subst et
        refine .inl ⟨Nat.le_refl _, ?_⟩
        obtain ⟨F3, e3⟩ := LI.done e2.st hD
        exact frz_k k (e2.trans e3)
end
end G

set_option Elab.async false
set_option linter.all false
set_option maxRecDepth 100000
set_option maxHeartbeats 4000000
/-! try with one or more except clauses, each with a name or without. -/
namespace G
open PySem PySem.Spec PyProof.Rows L2
open L2H (RoomH Hot1 PinOk HotC)
abbrev Cls1 := Value × Option Nat × List Stmt
def endsO : Option Nat → Ends → Ends
  | none, D => D
  | some i, D => { nx := fun σ H => D.nx (σ.set i none) H, rt := D.rt, bk := fun σ H => D.bk (σ.set i none) H, ct := fun σ H => D.ct (σ.set i none) H }
def slotO : Option Nat → Addr → L2.St → L2.St
  | none, _, σ => σ
  | some i, a, σ => σ.set i (some (.ref a))
/-- the clauses as they are written, and what they catch -/
inductive Clauses (X : Cx) : List ExceptHandler → List Cls1 → Prop
  | nil : Clauses X [] []
  | plain {x : Str} {c : Value} {b₀ : Stmt} {su : List Stmt} {np pos' : Pos} {hds : List ExceptHandler} {l : List Cls1} (hc : Names X x c) (r : Clauses X hds l) : Clauses X (.ExceptHandler (some (.Name x np)) none (b₀ :: su) pos' :: hds) ((c, none, b₀ :: su) :: l)
  | named {x n : Str} {c : Value} {i : Nat} {b₀ : Stmt} {su : List Stmt} {np pos' : Pos} {hds : List ExceptHandler} {l : List Cls1} (hc : Names X x c) (hi : X.N[i]? = some n) (hl : X.env.kindOf n = some .local) (r : Clauses X hds l) :
      Clauses X (.ExceptHandler (some (.Name x np)) (some n) (b₀ :: su) pos' :: hds) ((c, some i, b₀ :: su) :: l)
def wTry (X : Cx) (Wout : WX) (D : Ends) : List Cls1 → WX
  | [] => Wout
  | (c, o, su) :: r => fun cls d σ H => ∃ b, PySem.W.exmOne X.K cls c = some b ∧
      (b = true → ∀ (a : Addr) (oe : Obj) (pn : List (Addr × Obj)), H a = none → L2N.Zn cls d oe → (∃ vs, oe.data = .fields vs) → WSs (X.suite a ((a, oe) :: pn)) su (endsO o D) (slotO o a σ) H) ∧
      (b = false → wTry X Wout D r cls d σ H)
section
variable {X : Cx} {body : List Stmt} {h₀ : ExceptHandler} {hds : List ExceptHandler} {l : List Cls1} {pos : Pos} {Wout : WX} {D : Ends} {σ : L2.St} {H : Hp}
theorem ws_try (hst : X.stack = X.env :: X.outer) (hfm : X.env.frame = some X.env.locals) (hN : X.N.Nodup) (tk : L2N.Takes X Wout) (cl : Clauses X (h₀ :: hds) l)
    (hb : ∀ (pn : List (Addr × Obj)) (xe : Value → Shared → Prop), L2N.Takes (X.tr pn xe) (wTry X Wout D l) → PassesOwn (model X.prog X.w) X.A X.env xe → WSs (X.tr pn xe) body D σ H) : WS X (.Try body (h₀ :: hds) [] [] pos) D σ H := by
  refine ⟨?_⟩
  intro pins s J0
  have ok := J0.ok
  have frames : X.A.frames = some (X.env :: X.outer) := ok.frames.trans (congrArg some hst)
  refine wpAny_Try_except ?_
  refine wpAny_mono (Sh.go (hb (X.pn ++ pins) (fun e s₁ => wpAny (model X.prog X.w) X.A (noteFrame e X.env) (fun _ s₂ => wpAny (model X.prog X.w) X.A (setFlight e none)
    (fun _ s₃ => wpAny (model X.prog X.w) X.A (handleBy e X.env (h₀ :: hds)) (SP X pins D) X.xe s₃) X.xe s₂) X.xe s₁) (fun u s' air => ?_) PassesOwn.looking) [] s (J0.toTry _)) (fun f s1 out => ?_) (fun _ _ z => z)
  · obtain ⟨a, Bs, sI, pins', σ', H', cls, d, rfl, Jt, nb, up, sky, na, os, ag, wish⟩ := air
    have J : Inv X pins σ' H' sI := Jt.ofTry ok
    rw [show (X.tr (X.pn ++ pins) _).stack = X.env :: X.outer from hst] at sky
    refine L2N.Sky.land L2N.Zn.steady frames hfm sky fun h3 fl3 up3 => ?_
    have J3 : Inv X pins σ' H' { s' with heap := h3 } := J.landed nb fl3.1 (up.trans up3) os ag
    obtain ⟨oe3, vs3, get3, zn3, data3⟩ := fl3.there
    have out_of_frames : a ∉ frs (X.env :: X.outer) := fun hm => by
      obtain ⟨_, o', e', nof⟩ := fl3.2.2.1.mem hm
      rw [get3] at e'
      cases e'
      exact nof _ data3
    have nL : a ≠ X.env.locals := fun z => out_of_frames (List.mem_filterMap.mpr ⟨X.env, List.mem_cons_self, hfm.trans (congrArg some z.symm)⟩)
    have nF : a ∉ X.fs := fun hm => by
      obtain ⟨en, h1, h2⟩ := List.mem_filterMap.mp hm
      exact out_of_frames (List.mem_filterMap.mpr ⟨en, List.mem_cons_of_mem _ h1, h2⟩)
    have S3 := J3.suite get3 data3 na nL nF
    have class3 : PySem.W.Looks (model X.prog X.w) h3 (typeOf (.ref a)) cls := fun A Q E s k q => wpAny_typeOf_ref (k _ _ get3) (by rw [zn3.1]; exact q)
    have named : ∀ {x : Str} {c : Value} {np : Pos} {Q : Value → Shared → Prop} {E : Value → Shared → Prop}, Names X x c → Q c { s' with heap := h3 } → wpAny (model X.prog X.w) (X.A.mark (some (.ref a))) (eval (.Name x np) X.env) Q E { s' with heap := h3 } := fun {x c np Q E} hc q => by
      obtain ⟨hg, hd, hm | ⟨hm, hv, hn⟩⟩ := hc
      · exact ld_glob (X := X.suite a ((a, oe3) :: (X.pn ++ pins))) S3 hg hm q hd
      · exact ld_blt (X := X.suite a ((a, oe3) :: (X.pn ++ pins))) S3 hg hm hv q hn hd
    have all : ∀ {hs' : List ExceptHandler} {l' : List Cls1}, Clauses X hs' l' → wTry X Wout D l' cls d σ' H' → wpAny (model X.prog X.w) X.A (handleBy (.ref a) X.env hs') (SP X pins D) X.xe { s' with heap := h3 } := by
      intro hs' l' cls'
      induction cls' with
      | nil =>
        intro wish
        refine wpAny_handleBy_nil ?_
        obtain ⟨_, _, _, oe, vs, T, oT, ts', get, _, dat, at1, _⟩ := id fl3
        unfold PySem.passOn
        refine wpAny_bind (wpAny_field get dat at1 ?_)
        rw [if_neg (show ¬ ((Value.ref T == Value.none) = true) by simp)]
        have on : wpAny (model X.prog X.w) X.A (setFlight (.ref a) X.env.frame) (fun _ s4 => wpAny (model X.prog X.w) X.A (throw (.ref a) : Sem Flow) (SP X pins D) X.xe s4) X.xe { s' with heap := h3 } := by
          rw [hfm]
          refine HandSPX.setFlight_upZ fl3 fun h4 held up4 => wpAny_throw (tk _ _ ⟨a, Bs, sI, pins, σ', H', cls, d, rfl, J, nb, (up.trans up3).trans up4, ?_, na, os, ag, wish⟩)
          rw [hst]
          exact .inr (.inr held)
        first
          | exact wpAny_bind (wpAny_pure (wpAny_bind on))
          | exact wpAny_bind on
      | @plain x c b₀ su np pos' hds' l' hc r ih =>
        rintro ⟨b, he, yes, no⟩
        refine wpAny_handleBy_cons (codeAny_handlers_test ?_) (fun q => nomatch q)
        refine named hc ((PySem.W.exm_one (M := model X.prog X.w) J3.kIn class3 he).here ?_)
        cases b with
        | false => exact ih (no rfl)
        | true =>
          refine codeAny_handlers_suite (HandSPX.lands_againZ fl3 fun h4 fl4 up4 => ?_)
          have J4 : Inv X pins σ' H' { s' with heap := h4 } := J.landed nb fl4.1 ((up.trans up3).trans up4) os ag
          obtain ⟨oe4, vs4, get4, zn4, data4⟩ := fl4.there
          refine wpAny_mono ((yes rfl a oe4 (X.pn ++ pins) na zn4 ⟨_, data4⟩).go [] _ (J4.suite get4 data4 na nL nF)) (fun f s6 h6 => ?_) (fun _ _ z => z.elim)
          cases f with
          | ret u =>
            obtain ⟨v6, σ6, H6, S6, r6, q6⟩ := h6
            exact ⟨v6, σ6, H6, S6.unsuite ok, r6, q6⟩
          | next =>
            obtain ⟨σ6, H6, S6, q6⟩ := h6
            exact ⟨σ6, H6, S6.unsuite ok, q6⟩
          | brk =>
            obtain ⟨σ6, H6, S6, q6⟩ := h6
            exact ⟨σ6, H6, S6.unsuite ok, q6⟩
          | cont =>
            obtain ⟨σ6, H6, S6, q6⟩ := h6
            exact ⟨σ6, H6, S6.unsuite ok, q6⟩
      | @named x n c i b₀ su np pos' hds' l' hc hi hl r ih =>
        rintro ⟨b, he, yes, no⟩
        refine wpAny_handleBy_cons (codeAny_handlers_test ?_) (fun q => nomatch q)
        refine named hc ((PySem.W.exm_one (M := model X.prog X.w) J3.kIn class3 he).here ?_)
        cases b with
        | false => exact ih (no rfl)
        | true =>
          refine codeAny_handlers_suite_as (HandSPX.lands_againZ fl3 fun h4 fl4 up4 => ?_)
          have J4 : Inv X pins σ' H' { s' with heap := h4 } := J.landed nb fl4.1 ((up.trans up3).trans up4) os ag
          obtain ⟨oe4, vs4, get4, zn4, data4⟩ := fl4.there
          refine store_ok (X := X.suite a ((a, oe4) :: (X.pn ++ pins))) (v := .ref a) (J4.suite get4 data4 na nL nF) hN hi (.inl hl) rfl (fun s5 S5 => ?_) (.inr hl)
          refine wpAny_mono ((yes rfl a oe4 (X.pn ++ pins) na zn4 ⟨_, data4⟩).go [] s5 S5) (fun f s6 h6 => ?_) (fun _ _ z => z.elim)
          have gone : ∀ {σ6 : L2.St} {H6 : Hp} {Q : Shared → Prop}, Inv (X.suite a ((a, oe4) :: (X.pn ++ pins))) [] σ6 H6 s6 → (∀ s7, Inv X pins (σ6.set i none) H6 s7 → Q s7) →
              wpAny (model X.prog X.w) X.A (do bindName X.env n .none; unbindBehindTheSuite X.env n pos') (fun _ s7 => Q s7) X.xe s6 := fun {σ6 H6 Q} S6 hq => gone_ok (S6.unsuite ok) hN hi hl hq
          cases f with
          | ret u =>
            obtain ⟨v6, σ6, H6, S6, r6, q6⟩ := h6
            exact gone S6 fun s7 J7 => ⟨v6, _, H6, J7, r6, q6⟩
          | next =>
            obtain ⟨σ6, H6, S6, q6⟩ := h6
            exact gone S6 fun s7 J7 => ⟨_, H6, J7, q6⟩
          | brk =>
            obtain ⟨σ6, H6, S6, q6⟩ := h6
            exact gone S6 fun s7 J7 => ⟨_, H6, J7, q6⟩
          | cont =>
            obtain ⟨σ6, H6, S6, q6⟩ := h6
            exact gone S6 fun s7 J7 => ⟨_, H6, J7, q6⟩
    exact all cl wish
  · cases f with
    | ret u =>
      obtain ⟨v, σ', H', J', r, q⟩ := out
      exact ⟨v, σ', H', J'.ofTry ok, r, q⟩
    | next =>
      obtain ⟨σ', H', J', q⟩ := out
      exact wpAny_execs_nil ⟨σ', H', J'.ofTry ok, q⟩
    | brk =>
      obtain ⟨σ', H', J', q⟩ := out
      exact ⟨σ', H', J'.ofTry ok, q⟩
    | cont =>
      obtain ⟨σ', H', J', q⟩ := out
      exact ⟨σ', H', J'.ofTry ok, q⟩
end
/-! ### by data -/
abbrev Gm.hot (Γ : Gm) (a : Addr) : Gm := { Γ with A := Γ.A.mark (some (.ref a)) }
theorem room_hot {k : Nat} {Γ : Gm} (r : Room k Γ.A) (a : Addr) : RoomH k (Γ.hot a).A := ⟨r.dp, r.un⟩
def slotD (N : List Str) : Option Nat → Addr → List (Option Dt)
  | none, _ => List.replicate N.length none
  | some i, a => (List.replicate N.length none).set i (some (.ref a))
/-- a suite that ends in a return -/
def RetO (O : Out → Prop) : Out → Prop
  | .ret d m => O (.ret d m)
  | _ => False
/-- what is to hold of the clauses, where C was raised -/
def Caught (Γ : Gm) (N : List Str) (sc : Scope) (F : Hp) (O : Out → Prop) : List Cls1 → Addr → Mm → Prop
  | [], C, m => O (.err C m)
  | (c, o, su) :: r, C, m => ∃ b, PySem.W.exmOne Γ.K (.ref C) c = some b ∧
      (b = true → ∀ (X : Cx) (a : Addr) (oe : Obj), Bh X (Γ.hot a) N sc (a, oe) → L2N.Zn (.ref C) none oe → (∃ vs, oe.data = .fields vs) → SD X F su ⟨slotD N o a, m⟩ (RetO O)) ∧
      (b = false → Caught Γ N sc F O r C m)
def TryO (Γ : Gm) (N : List Str) (sc : Scope) (F : Hp) (O : Out → Prop) (l : List Cls1) : Out → Prop
  | .err C m => Caught Γ N sc F O l C m
  | o => O o
section
variable {X : Cx} {F : Hp} {δ : Sl} {body rest : List Stmt} {O : Out → Prop} {pos : Pos} {Γ : Gm} {N : List Str} {sc : Scope} {h₀ : ExceptHandler} {hds : List ExceptHandler} {l : List Cls1}
theorem Ctx.slots {F H : Hp} {σ : L2.St} {m : Mm} (s : Sta F H m) (hl : σ.length = N.length) (o : Option Nat) (a : Addr) : Ctx F H (slotO o a σ) ⟨slotD N o a, m⟩ := by
  have base : Ctx F H σ ⟨List.replicate N.length none, m⟩ := ⟨s, fun i d h => (by
    rw [List.getElem?_replicate] at h
    split at h
    · cases h
    · cases h), by rw [List.length_replicate, hl]; exact Nat.le_refl _⟩
  cases o with
  | none => exact base
  | some i => exact base.set i (.ref a)
theorem caught_wish [B : Bd X Γ N sc] {F1 H : Hp} {D : Ends} {W : WX} {m : Mm} {C : Addr} (p : ∀ o, O o → Post m F1 H D W o) (s : Same F F1) {m' : Mm} {F' H' : Hp} {σ' : L2.St} (e' : Ext m F1 H F' H' m') (hl : σ'.length = N.length) :
    ∀ l : List Cls1, Caught Γ N sc F O l C m' → wTry X W D l (.ref C) none σ' H'
  | [], h => p _ h F' H' σ' e'
  | (c, o, su) :: r, h => by
    obtain ⟨b, h1, h2, h3⟩ := h
    refine ⟨b, by rw [B.K]; exact h1, fun hb a oe pn na zn hf => ?_, fun hb => caught_wish p s e' hl r (h3 hb)⟩
    have Bhot : Bh (X.suite a ((a, oe) :: pn)) (Γ.hot a) N sc (a, oe) := ⟨B.prog, B.w, B.K, B.mg, B.base, congrArg (fun A : Around => A.mark (some (.ref a))) B.A, B.hN, B.hsc, B.nd, ⟨rfl, by
      obtain ⟨vs, hv⟩ := hf
      exact ⟨vs, hv, zn.2.2 vs hv⟩⟩, List.mem_cons_self⟩
    refine h2 hb _ a oe Bhot zn hf F' H' _ _ (fun _ _ _ _ => False) (s.trans e'.ff) takesN0 (Ctx.slots e'.st hl o a) fun q hq => ?_
    cases q with
    | ret d' m2 =>
      have q1 := p _ (show O (.ret d' m2) from hq)
      intro v F2 H2 e2 r2
      have q2 := q1 v F2 H2 (e'.trans e2) r2
      cases o with
      | none => exact q2
      | some i => exact q2
    | nx δ => exact hq.elim
    | err C m => exact hq.elim
    | brk δ => exact hq.elim
    | ct δ => exact hq.elim
theorem Clauses.tr {hs : List ExceptHandler} (c : Clauses X hs l) : Clauses X hs l := c
theorem try1 [B : Bd X Γ N sc] [Bf X] (cl : Clauses X (h₀ :: hds) l) (hb : ∀ X' : Cx, Bd X' Γ N sc → Bf X' → SD X' F body δ (TryO Γ N sc F O l)) : S1 X F (.Try body (h₀ :: hds) [] [] pos) δ O := fun F1 H σ D W s t c p =>
  ws_try (Wout := W) Bf.stk Bf.frm (by rw [B.hN]; exact B.nd) t cl fun pn xe tk po =>
    hb (X.tr pn xe) ⟨B.prog, B.w, B.K, B.mg, B.base, B.A, B.hN, B.hsc, B.calm, B.nd, po⟩ ⟨(Bf.fn : ∀ n, X.fn n = true), (Bf.stk : X.stack = X.env :: X.outer), (Bf.frm : X.env.frame = some X.env.locals)⟩ F1 H σ D _ s (wlen tk) c fun o ho => by
      cases o with
      | err C m' => exact fun F' H' σ' e' hl => caught_wish p s e' (hl.trans (congrArg List.length B.hN)) l ho
      | nx δ' => exact p _ ho
      | ret d m' => exact p _ ho
      | brk δ' => exact p _ ho
      | ct δ' => exact p _ ho
where
  wlen {X' : Cx} {W : WX} (tk : L2N.Takes X' W) : L2N.Takes X' (fun cls d σ H => σ.length = X'.N.length → W cls d σ H) := fun u s' ⟨a, B, sI, pins, σ, H, cls, d, e, I, nb, up, sky, na, os, ag, w⟩ =>
    tk u s' ⟨a, B, sI, pins, σ, H, cls, d, e, I, nb, up, sky, na, os, ag, w I.len⟩
theorem s_try [B : Bd X Γ N sc] [Bf X] (cl : Clauses X (h₀ :: hds) l) (hb : ∀ X' : Cx, Bd X' Γ N sc → Bf X' → SD X' F body δ (TryO Γ N sc F (Th X F rest O) l)) : SD X F (.Try body (h₀ :: hds) [] [] pos :: rest) δ O := s_seq (try1 cl hb)
/-- a clause's class, of the module -/
theorem names_of [B : Bd X Γ N sc] {n : Str} {C : Addr} (hm : Γ.mg n = some (.ref C)) (hg : glB sc n = true := by decide +kernel) : Names X n (.ref C) := ⟨(B.gl hg).1, (B.gl hg).2.1, .inl (by rw [B.mg]; exact hm)⟩
theorem kind_of [B : Bd X Γ N sc] {n : Str} (h : sc.names.lookup n = some .local) : X.env.kindOf n = some .local := by
  show X.env.scope.names.lookup n = some .local
  rw [B.hsc]; exact h
end
theorem s_asgH {X : Cx} {F : Hp} {δ : Sl} {e : Expr} {d : Dt} {rest : List Stmt} {O : Out → Prop} {pos pos' : Pos} {n : Str} {Γ : Gm} {N : List Str} {sc : Scope} {p : Addr × Obj} [B : Bh X Γ N sc p] (i : Nat) (he : EvD X F e δ d) (hr : SD X F rest (δ.set i (some d)) O) (hi : N[i]? = some n := by rfl) (hx : sc.names.lookup n = some .local := by decide +kernel)
    (hs : swapsWith e (some (.Name n pos')) pos.line X.env = pure false := by rfl) : SD X F (.Assign [.Name n pos'] e pos :: rest) δ O := fun F1 H σ D W s t c p =>
  wss (pss_cons (ps_set (by rw [B.hN]; exact B.nd) (by rw [B.hN]; exact hi) (.inl (by rw [B.hsc]; exact hx)) pe hs (.inr (by rw [B.hsc]; exact hx))) pss) (he F1 H σ _ s c fun v F2 H2 e2 r2 => hr F2 H2 _ D W (s.trans e2.ff) t ((c.ext e2).set i r2) fun o ho => (p o ho).ext e2)
end G

set_option Elab.async false
set_option linter.all false
set_option maxRecDepth 100000
set_option maxHeartbeats 4000000
/-! What the head tells of the program's own errors, for isinstance. -/
namespace G
open PySem PySem.Spec PyProof.Rows L2
def excNames : List Str := ["NoGrammar", "NoRule", "Circling", "OutOfPlace", "TooLong", "NoNotes"]
def ckC (K : PySem.W.Frag) (D : Addr) : Bool :=
  He.eqO (PySem.W.findIn K (.ref D) "__getattribute__") (some (some (.builtin "BaseException.__getattribute__"))) && (He.eqO (PySem.W.findIn K (.ref D) "__getattr__") (some none) &&
  (decide (PySem.W.subIn K (.ref D) (.type "BaseException") = some true) && (PySem.W.hasDictIn K D && (He.eqO (PySem.W.findIn K (.ref D) "__class__") (some (some (.builtin "object.__class__"))) &&
  (He.eqO (PySem.W.specialIn K (.builtin "object.__class__") "__get__") (some (some (.builtin "getset_descriptor.__get__"))) && (decide (PySem.W.takesIn K (.builtin "object.__class__") = some true) && decide (PySem.W.mroIn K D (.type "object") = some true)))))))
theorem ckC_ok {K : PySem.W.Frag} {D : Addr} (h : ckC K D = true) : ExcC K D := by
  unfold ckC at h
  simp only [Bool.and_eq_true] at h
  obtain ⟨h1, h2, h3, h4, h5, h6, h7, h8⟩ := h
  exact ⟨He.eqO_ok h1, He.eqO_ok h2, of_decide_eq_true h3, h4, He.eqO_ok h5, He.eqO_ok h6, of_decide_eq_true h7, of_decide_eq_true h8⟩
def ckE (K : PySem.W.Frag) (x : Str) : Bool := ckC K (He.ga K x) && ((excNames.all fun y => decide (PySem.W.kitOne K (.ref (He.ga K x)) (.ref (He.ga K y)) = some (decide (x = y)))) &&
  (decide (PySem.W.kitOne K (.ref (He.ga K x)) (.ref (He.ga K "GrammarError")) = some true) && decide (PySem.W.kitOne K (.ref (He.ga K x)) (.type "ValueError") = some true)))
/-- what isinstance asks of the class Grammar -/
def ckG (K : PySem.W.Frag) : Bool := He.eqO (PySem.W.findIn K (.ref (He.ga K "Grammar")) "__class__") (some (some (.builtin "object.__class__"))) && (He.eqO (PySem.W.specialIn K (.builtin "object.__class__") "__get__") (some (some (.builtin "getset_descriptor.__get__"))) &&
  (decide (PySem.W.takesIn K (.builtin "object.__class__") = some true) && (decide (PySem.W.mroIn K (He.ga K "Grammar") (.type "object") = some true) && decide (PySem.W.kitOne K (.ref (He.ga K "Grammar")) (.ref (He.ga K "Grammar")) = some true))))
def ckAll (K : PySem.W.Frag) : Bool := excNames.all (ckE K) && ckG K
structure GraAt (K : PySem.W.Frag) : Prop where
  ha : PySem.W.findIn K (.ref (He.ga K "Grammar")) "__class__" = some (some (.builtin "object.__class__"))
  hn : PySem.W.specialIn K (.builtin "object.__class__") "__get__" = some (some (.builtin "getset_descriptor.__get__"))
  ht : PySem.W.takesIn K (.builtin "object.__class__") = some true
  hm : PySem.W.mroIn K (He.ga K "Grammar") (.type "object") = some true
  hk : PySem.W.kitOne K (.ref (He.ga K "Grammar")) (.ref (He.ga K "Grammar")) = some true
theorem gra_at {K : PySem.W.Frag} (h : ckAll K = true) : GraAt K := by
  unfold ckAll ckG at h
  simp only [Bool.and_eq_true] at h
  obtain ⟨_, h1, h2, h3, h4, h5⟩ := h
  exact ⟨He.eqO_ok h1, He.eqO_ok h2, of_decide_eq_true h3, of_decide_eq_true h4, of_decide_eq_true h5⟩
structure ErrAt (K : PySem.W.Frag) (x : Str) : Prop where
  c : ExcC K (He.ga K x)
  own : ∀ y ∈ excNames, PySem.W.kitOne K (.ref (He.ga K x)) (.ref (He.ga K y)) = some (decide (x = y))
  ge : PySem.W.kitOne K (.ref (He.ga K x)) (.ref (He.ga K "GrammarError")) = some true
  ve : PySem.W.kitOne K (.ref (He.ga K x)) (.type "ValueError") = some true
theorem err_at {K : PySem.W.Frag} (h : ckAll K = true) {x : Str} (hx : x ∈ excNames) : ErrAt K x := by
  have h1 := List.all_eq_true.mp (Bool.and_eq_true_iff.mp h).1 x hx
  unfold ckE at h1
  simp only [Bool.and_eq_true] at h1
  obtain ⟨h1, h2, h3, h4⟩ := h1
  exact ⟨ckC_ok h1, fun y hy => of_decide_eq_true (List.all_eq_true.mp h2 y hy), of_decide_eq_true h3, of_decide_eq_true h4⟩
/-! the head's facts, with these -/
abbrev AlX : Type := Bool × He.AlD
def obsX (fa : List He.Fa) (fn : List He.DefD) (K : PySem.W.Frag) : AlX := (ckAll K, He.obsD fa fn K)
def valX (fn : List He.DefD) : AlX := (true, He.valD fn)
structure SaysX (fa : List He.Fa) (fn : List He.DefD) (K : PySem.W.Frag) : Prop where
  eq : obsX fa fn K = valX fn
theorem SaysX.d {fa : List He.Fa} {fn : List He.DefD} {K : PySem.W.Frag} (c : SaysX fa fn K) : He.SaysD fa fn K := congrArg (fun z : AlX => z.2) c.eq
theorem SaysX.q {fa : List He.Fa} {fn : List He.DefD} {K : PySem.W.Frag} (c : SaysX fa fn K) : ckAll K = true := congrArg (fun z : AlX => z.1) c.eq
def obsXG (n : Nat) (fa : List He.Fa) (fn : List He.DefD) (g : Addr → Option Obj) : AlX := obsX fa fn (He.frG g (He.asD g n))
def hookX (n : Nat) (fa : List He.Fa) (fn : List He.DefD) : PySem.W.Hook where
  α := AlX
  obs := fun s => obsXG n fa fn s.heap.get?
  val := fun _ => valX fn
  says := fun _ h => ∃ K : PySem.W.Frag, K.In h ∧ SaysX fa fn K
  of := fun _ _ e => ⟨_, He.frG_in, ⟨e⟩⟩
  keeps := fun _ _ _ ⟨K, hK, c⟩ k => ⟨K, PySem.W.Frag.In.keeps hK k, c⟩
theorem obsXG_eq {n : Nat} {fa : List He.Fa} {fn : List He.DefD} {g : Addr → Option Obj} {s : Shared} (h : ∀ a, g a = s.heap.get? a) : obsXG n fa fn g = (hookX n fa fn).obs s := by
  rw [show g = s.heap.get? from funext h]
  rfl
end G

set_option Elab.async false
set_option linter.all false
set_option maxRecDepth 100000
set_option maxHeartbeats 4000000
/-! The text by places, the names by slot, what the head tells (printed by genhdr.py). -/
namespace Law
open PySem PySem.Spec PyProof.Rows L2 G
def top (i : Nat) : Stmt := PySem.Challenge.pw_grammarpack_k07_notes_read.main.body.getD i (.Pass ⟨0, 0, 0, 0⟩)
abbrev s_is_sign : Stmt := top 14
abbrev N_is_sign : List Str := ["thing"]
abbrev P_is_sign : List Str := ["thing"]
theorem sc_is_sign : FnScope N_is_sign P_is_sign (defScope s_is_sign) := ⟨rfl, rfl, rfl, by decide +kernel, rfl, by decide +kernel, by decide +kernel⟩
abbrev s_is_name : Stmt := top 15
abbrev N_is_name : List Str := ["thing", "sign"]
abbrev P_is_name : List Str := ["thing"]
theorem sc_is_name : FnScope N_is_name P_is_name (defScope s_is_name) := ⟨rfl, rfl, rfl, by decide +kernel, rfl, by decide +kernel, by decide +kernel⟩
abbrev s_is_leaf : Stmt := top 16
abbrev N_is_leaf : List Str := ["part"]
abbrev P_is_leaf : List Str := ["part"]
theorem sc_is_leaf : FnScope N_is_leaf P_is_leaf (defScope s_is_leaf) := ⟨rfl, rfl, rfl, by decide +kernel, rfl, by decide +kernel, by decide +kernel⟩
abbrev s_is_part : Stmt := top 17
abbrev N_is_part : List Str := ["part", "deep", "one"]
abbrev P_is_part : List Str := ["part", "deep"]
theorem sc_is_part : FnScope N_is_part P_is_part (defScope s_is_part) := ⟨rfl, rfl, rfl, by decide +kernel, rfl, by decide +kernel, by decide +kernel⟩
abbrev s_within : Stmt := top 18
abbrev N_within : List Str := ["part"]
abbrev P_within : List Str := ["part"]
theorem sc_within : FnScope N_within P_within (defScope s_within) := ⟨rfl, rfl, rfl, by decide +kernel, rfl, by decide +kernel, by decide +kernel⟩
abbrev s_rules_in : Stmt := top 19
abbrev N_rules_in : List Str := ["part", "found", "one"]
abbrev P_rules_in : List Str := ["part"]
theorem sc_rules_in : FnScope N_rules_in P_rules_in (defScope s_rules_in) := ⟨rfl, rfl, rfl, by decide +kernel, rfl, by decide +kernel, by decide +kernel⟩
abbrev s_may_be_empty : Stmt := top 22
abbrev N_may_be_empty : List Str := ["part", "empty", "one"]
abbrev P_may_be_empty : List Str := ["part", "empty"]
theorem sc_may_be_empty : FnScope N_may_be_empty P_may_be_empty (defScope s_may_be_empty) := ⟨rfl, rfl, rfl, by decide +kernel, rfl, by decide +kernel, by decide +kernel⟩
abbrev s_empty_rules : Stmt := top 23
abbrev N_empty_rules : List Str := ["parts", "empty", "before", "name"]
abbrev P_empty_rules : List Str := ["parts"]
theorem sc_empty_rules : FnScope N_empty_rules P_empty_rules (defScope s_empty_rules) := ⟨rfl, rfl, rfl, by decide +kernel, rfl, by decide +kernel, by decide +kernel⟩
abbrev s_asked_ahead : Stmt := top 24
abbrev N_asked_ahead : List Str := ["part", "empty", "found", "one"]
abbrev P_asked_ahead : List Str := ["part", "empty"]
theorem sc_asked_ahead : FnScope N_asked_ahead P_asked_ahead (defScope s_asked_ahead) := ⟨rfl, rfl, rfl, by decide +kernel, rfl, by decide +kernel, by decide +kernel⟩
abbrev s_comes_back : Stmt := top 25
abbrev N_comes_back : List Str := ["ahead", "name", "waiting", "seen", "one"]
abbrev P_comes_back : List Str := ["ahead", "name"]
theorem sc_comes_back : FnScope N_comes_back P_comes_back (defScope s_comes_back) := ⟨rfl, rfl, rfl, by decide +kernel, rfl, by decide +kernel, by decide +kernel⟩
abbrev s_Grammar_init : Stmt := inClass (top 26) 0
abbrev N_Grammar_init : List Str := ["self", "rules", "name", "part", "other", "ahead"]
abbrev P_Grammar_init : List Str := ["self", "rules"]
theorem sc_Grammar_init : FnScope N_Grammar_init P_Grammar_init (defScope s_Grammar_init) := ⟨rfl, rfl, rfl, by decide +kernel, rfl, by decide +kernel, by decide +kernel⟩
abbrev s_Grammar_need : Stmt := inClass (top 26) 1
abbrev N_Grammar_need : List Str := ["self", "name"]
abbrev P_Grammar_need : List Str := ["self", "name"]
theorem sc_Grammar_need : FnScope N_Grammar_need P_Grammar_need (defScope s_Grammar_need) := ⟨rfl, rfl, rfl, by decide +kernel, rfl, by decide +kernel, by decide +kernel⟩
abbrev s_Grammar_names : Stmt := inClass (top 26) 2
abbrev N_Grammar_names : List Str := ["self"]
abbrev P_Grammar_names : List Str := ["self"]
theorem sc_Grammar_names : FnScope N_Grammar_names P_Grammar_names (defScope s_Grammar_names) := ⟨rfl, rfl, rfl, by decide +kernel, rfl, by decide +kernel, by decide +kernel⟩
abbrev s_Grammar_part : Stmt := inClass (top 26) 3
abbrev N_Grammar_part : List Str := ["self", "name"]
abbrev P_Grammar_part : List Str := ["self", "name"]
theorem sc_Grammar_part : FnScope N_Grammar_part P_Grammar_part (defScope s_Grammar_part) := ⟨rfl, rfl, rfl, by decide +kernel, rfl, by decide +kernel, by decide +kernel⟩
abbrev s_word_at : Stmt := top 28
abbrev N_word_at : List Str := ["words", "at"]
abbrev P_word_at : List Str := ["words", "at"]
theorem sc_word_at : FnScope N_word_at P_word_at (defScope s_word_at) := ⟨rfl, rfl, rfl, by decide +kernel, rfl, by decide +kernel, by decide +kernel⟩
abbrev s_number_at : Stmt := top 29
abbrev N_number_at : List Str := ["words", "at", "word", "figure"]
abbrev P_number_at : List Str := ["words", "at"]
theorem sc_number_at : FnScope N_number_at P_number_at (defScope s_number_at) := ⟨rfl, rfl, rfl, by decide +kernel, rfl, by decide +kernel, by decide +kernel⟩
abbrev s_sign_at : Stmt := top 30
abbrev N_sign_at : List Str := ["words", "at", "number", "found", "sign"]
abbrev P_sign_at : List Str := ["words", "at"]
theorem sc_sign_at : FnScope N_sign_at P_sign_at (defScope s_sign_at) := ⟨rfl, rfl, rfl, by decide +kernel, rfl, by decide +kernel, by decide +kernel⟩
abbrev s_leaf_at : Stmt := top 31
abbrev N_leaf_at : List Str := ["words", "at", "word"]
abbrev P_leaf_at : List Str := ["words", "at"]
theorem sc_leaf_at : FnScope N_leaf_at P_leaf_at (defScope s_leaf_at) := ⟨rfl, rfl, rfl, by decide +kernel, rfl, by decide +kernel, by decide +kernel⟩
abbrev s_opened_at : Stmt := top 32
abbrev N_opened_at : List Str := ["words", "at", "word"]
abbrev P_opened_at : List Str := ["words", "at"]
theorem sc_opened_at : FnScope N_opened_at P_opened_at (defScope s_opened_at) := ⟨rfl, rfl, rfl, by decide +kernel, rfl, by decide +kernel, by decide +kernel⟩
abbrev s_closed : Stmt := top 33
abbrev N_closed : List Str := ["frame"]
abbrev P_closed : List Str := ["frame"]
theorem sc_closed : FnScope N_closed P_closed (defScope s_closed) := ⟨rfl, rfl, rfl, by decide +kernel, rfl, by decide +kernel, by decide +kernel⟩
abbrev s_part_of : Stmt := top 34
abbrev N_part_of : List Str := ["words", "at", "frames", "pair", "frame"]
abbrev P_part_of : List Str := ["words"]
theorem sc_part_of : FnScope N_part_of P_part_of (defScope s_part_of) := ⟨rfl, rfl, rfl, by decide +kernel, rfl, by decide +kernel, by decide +kernel⟩
abbrev s_grammar_of : Stmt := top 35
abbrev N_grammar_of : List Str := ["text", "rules", "row", "words"]
abbrev P_grammar_of : List Str := ["text"]
theorem sc_grammar_of : FnScope N_grammar_of P_grammar_of (defScope s_grammar_of) := ⟨rfl, rfl, rfl, by decide +kernel, rfl, by decide +kernel, by decide +kernel⟩
abbrev s_law_cell_at : Stmt := top 37
abbrev N_law_cell_at : List Str := ["_law_script", "_law_k"]
abbrev P_law_cell_at : List Str := ["_law_script", "_law_k"]
theorem sc_law_cell_at : FnScope N_law_cell_at P_law_cell_at (defScope s_law_cell_at) := ⟨rfl, rfl, rfl, by decide +kernel, rfl, by decide +kernel, by decide +kernel⟩
abbrev s_law_sign_by : Stmt := top 38
abbrev N_law_sign_by : List Str := ["_law_cell", "_law_some"]
abbrev P_law_sign_by : List Str := ["_law_cell"]
theorem sc_law_sign_by : FnScope N_law_sign_by P_law_sign_by (defScope s_law_sign_by) := ⟨rfl, rfl, rfl, by decide +kernel, rfl, by decide +kernel, by decide +kernel⟩
abbrev s_law_marks : Stmt := top 39
abbrev N_law_marks : List Str := ["_law_error", "_law_found"]
abbrev P_law_marks : List Str := ["_law_error"]
theorem sc_law_marks : FnScope N_law_marks P_law_marks (defScope s_law_marks) := ⟨rfl, rfl, rfl, by decide +kernel, rfl, by decide +kernel, by decide +kernel⟩
abbrev s_law_alone : Stmt := top 40
abbrev N_law_alone : List Str := ["_law_error", "_law_place", "_law_k"]
abbrev P_law_alone : List Str := ["_law_error", "_law_place"]
theorem sc_law_alone : FnScope N_law_alone P_law_alone (defScope s_law_alone) := ⟨rfl, rfl, rfl, by decide +kernel, rfl, by decide +kernel, by decide +kernel⟩
abbrev s_law_refusal : Stmt := top 41
abbrev N_law_refusal : List Str := ["_law_notes", "_law_grammar", "_law_error", "_law_name"]
abbrev P_law_refusal : List Str := ["_law_notes"]
theorem sc_law_refusal : FnScope N_law_refusal P_law_refusal (defScope s_law_refusal) := ⟨rfl, rfl, rfl, by decide +kernel, rfl, by decide +kernel, by decide +kernel⟩
abbrev s_law_signs_row : Stmt := top 42
abbrev N_law_signs_row : List Str := ["_law_one", "_law_two", "_law_sign", "_law_low", "_law_high", "_law_words", "_law_inner"]
abbrev P_law_signs_row : List Str := ["_law_one", "_law_two", "_law_sign"]
theorem sc_law_signs_row : FnScope N_law_signs_row P_law_signs_row (defScope s_law_signs_row) := ⟨rfl, rfl, rfl, by decide +kernel, rfl, by decide +kernel, by decide +kernel⟩
abbrev s_law_signed : Stmt := top 43
abbrev N_law_signed : List Str := ["_law_words", "_law_kind", "_law_cell", "_law_at"]
abbrev P_law_signed : List Str := ["_law_words", "_law_kind", "_law_cell"]
theorem sc_law_signed : FnScope N_law_signed P_law_signed (defScope s_law_signed) := ⟨rfl, rfl, rfl, by decide +kernel, rfl, by decide +kernel, by decide +kernel⟩
abbrev s_law_broken : Stmt := top 44
abbrev N_law_broken : List Str := ["_law_words", "_law_kind", "_law_cell", "_law_at", "_law_numbers", "_law_spot", "_law_bad", "_law_place"]
abbrev P_law_broken : List Str := ["_law_words", "_law_kind", "_law_cell"]
theorem sc_law_broken : FnScope N_law_broken P_law_broken (defScope s_law_broken) := ⟨rfl, rfl, rfl, by decide +kernel, rfl, by decide +kernel, by decide +kernel⟩
abbrev s_law_deep : Stmt := top 45
abbrev N_law_deep : List Str := ["_law_many", "_law_part", "_law_turn"]
abbrev P_law_deep : List Str := ["_law_many"]
theorem sc_law_deep : FnScope N_law_deep P_law_deep (defScope s_law_deep) := ⟨rfl, rfl, rfl, by decide +kernel, rfl, by decide +kernel, by decide +kernel⟩
abbrev s_law_more_rows : Stmt := top 46
abbrev N_law_more_rows : List Str := ["_law_rows", "_law_kind", "_law_cell", "_law_letters", "_law_at", "_law_k"]
abbrev P_law_more_rows : List Str := ["_law_rows", "_law_kind", "_law_cell"]
theorem sc_law_more_rows : FnScope N_law_more_rows P_law_more_rows (defScope s_law_more_rows) := ⟨rfl, rfl, rfl, by decide +kernel, rfl, by decide +kernel, by decide +kernel⟩
abbrev s_law_odd_row : Stmt := top 47
abbrev N_law_odd_row : List Str := ["_law_kind", "_law_k", "_law_stranger", "_law_own", "_law_rows"]
abbrev P_law_odd_row : List Str := ["_law_kind", "_law_k", "_law_stranger"]
theorem sc_law_odd_row : FnScope N_law_odd_row P_law_odd_row (defScope s_law_odd_row) := ⟨rfl, rfl, rfl, by decide +kernel, rfl, by decide +kernel, by decide +kernel⟩
abbrev s_law : Stmt := top 48
abbrev N_law : List Str := ["_law_script", "_law_made", "_law_many", "_law_rules", "_law_rows", "_law_due", "_law_odd", "_law_k", "_law_stranger", "_law_at", "_law_words", "_law_kind", "_law_found"]
abbrev P_law : List Str := ["_law_script"]
theorem sc_law : FnScope N_law P_law (defScope s_law) := ⟨rfl, rfl, rfl, by decide +kernel, rfl, by decide +kernel, by decide +kernel⟩
/-- what is so of the text behind the top -/
structure Txt (K : PySem.W.Frag) (mg : Str → Option Value) : Prop where
  e_GrammarError : ExAt K mg "GrammarError"
  e_NoGrammar : ExAt K mg "NoGrammar"
  e_NoRule : ExAt K mg "NoRule"
  e_Circling : ExAt K mg "Circling"
  e_OutOfPlace : ExAt K mg "OutOfPlace"
  e_TooLong : ExAt K mg "TooLong"
  e_NoNotes : ExAt K mg "NoNotes"
  x_GrammarError_GrammarError : PySem.W.exmOne K (.ref (He.ga K "GrammarError")) (.ref (He.ga K "GrammarError")) = some true
  x_GrammarError_NoGrammar : PySem.W.exmOne K (.ref (He.ga K "GrammarError")) (.ref (He.ga K "NoGrammar")) = some false
  x_GrammarError_NoRule : PySem.W.exmOne K (.ref (He.ga K "GrammarError")) (.ref (He.ga K "NoRule")) = some false
  x_GrammarError_Circling : PySem.W.exmOne K (.ref (He.ga K "GrammarError")) (.ref (He.ga K "Circling")) = some false
  x_GrammarError_OutOfPlace : PySem.W.exmOne K (.ref (He.ga K "GrammarError")) (.ref (He.ga K "OutOfPlace")) = some false
  x_GrammarError_TooLong : PySem.W.exmOne K (.ref (He.ga K "GrammarError")) (.ref (He.ga K "TooLong")) = some false
  x_GrammarError_NoNotes : PySem.W.exmOne K (.ref (He.ga K "GrammarError")) (.ref (He.ga K "NoNotes")) = some false
  x_NoGrammar_GrammarError : PySem.W.exmOne K (.ref (He.ga K "NoGrammar")) (.ref (He.ga K "GrammarError")) = some true
  x_NoGrammar_NoGrammar : PySem.W.exmOne K (.ref (He.ga K "NoGrammar")) (.ref (He.ga K "NoGrammar")) = some true
  x_NoGrammar_NoRule : PySem.W.exmOne K (.ref (He.ga K "NoGrammar")) (.ref (He.ga K "NoRule")) = some false
  x_NoGrammar_Circling : PySem.W.exmOne K (.ref (He.ga K "NoGrammar")) (.ref (He.ga K "Circling")) = some false
  x_NoGrammar_OutOfPlace : PySem.W.exmOne K (.ref (He.ga K "NoGrammar")) (.ref (He.ga K "OutOfPlace")) = some false
  x_NoGrammar_TooLong : PySem.W.exmOne K (.ref (He.ga K "NoGrammar")) (.ref (He.ga K "TooLong")) = some false
  x_NoGrammar_NoNotes : PySem.W.exmOne K (.ref (He.ga K "NoGrammar")) (.ref (He.ga K "NoNotes")) = some false
  x_NoRule_GrammarError : PySem.W.exmOne K (.ref (He.ga K "NoRule")) (.ref (He.ga K "GrammarError")) = some true
  x_NoRule_NoGrammar : PySem.W.exmOne K (.ref (He.ga K "NoRule")) (.ref (He.ga K "NoGrammar")) = some false
  x_NoRule_NoRule : PySem.W.exmOne K (.ref (He.ga K "NoRule")) (.ref (He.ga K "NoRule")) = some true
  x_NoRule_Circling : PySem.W.exmOne K (.ref (He.ga K "NoRule")) (.ref (He.ga K "Circling")) = some false
  x_NoRule_OutOfPlace : PySem.W.exmOne K (.ref (He.ga K "NoRule")) (.ref (He.ga K "OutOfPlace")) = some false
  x_NoRule_TooLong : PySem.W.exmOne K (.ref (He.ga K "NoRule")) (.ref (He.ga K "TooLong")) = some false
  x_NoRule_NoNotes : PySem.W.exmOne K (.ref (He.ga K "NoRule")) (.ref (He.ga K "NoNotes")) = some false
  x_Circling_GrammarError : PySem.W.exmOne K (.ref (He.ga K "Circling")) (.ref (He.ga K "GrammarError")) = some true
  x_Circling_NoGrammar : PySem.W.exmOne K (.ref (He.ga K "Circling")) (.ref (He.ga K "NoGrammar")) = some false
  x_Circling_NoRule : PySem.W.exmOne K (.ref (He.ga K "Circling")) (.ref (He.ga K "NoRule")) = some false
  x_Circling_Circling : PySem.W.exmOne K (.ref (He.ga K "Circling")) (.ref (He.ga K "Circling")) = some true
  x_Circling_OutOfPlace : PySem.W.exmOne K (.ref (He.ga K "Circling")) (.ref (He.ga K "OutOfPlace")) = some false
  x_Circling_TooLong : PySem.W.exmOne K (.ref (He.ga K "Circling")) (.ref (He.ga K "TooLong")) = some false
  x_Circling_NoNotes : PySem.W.exmOne K (.ref (He.ga K "Circling")) (.ref (He.ga K "NoNotes")) = some false
  x_OutOfPlace_GrammarError : PySem.W.exmOne K (.ref (He.ga K "OutOfPlace")) (.ref (He.ga K "GrammarError")) = some true
  x_OutOfPlace_NoGrammar : PySem.W.exmOne K (.ref (He.ga K "OutOfPlace")) (.ref (He.ga K "NoGrammar")) = some false
  x_OutOfPlace_NoRule : PySem.W.exmOne K (.ref (He.ga K "OutOfPlace")) (.ref (He.ga K "NoRule")) = some false
  x_OutOfPlace_Circling : PySem.W.exmOne K (.ref (He.ga K "OutOfPlace")) (.ref (He.ga K "Circling")) = some false
  x_OutOfPlace_OutOfPlace : PySem.W.exmOne K (.ref (He.ga K "OutOfPlace")) (.ref (He.ga K "OutOfPlace")) = some true
  x_OutOfPlace_TooLong : PySem.W.exmOne K (.ref (He.ga K "OutOfPlace")) (.ref (He.ga K "TooLong")) = some false
  x_OutOfPlace_NoNotes : PySem.W.exmOne K (.ref (He.ga K "OutOfPlace")) (.ref (He.ga K "NoNotes")) = some false
  x_TooLong_GrammarError : PySem.W.exmOne K (.ref (He.ga K "TooLong")) (.ref (He.ga K "GrammarError")) = some true
  x_TooLong_NoGrammar : PySem.W.exmOne K (.ref (He.ga K "TooLong")) (.ref (He.ga K "NoGrammar")) = some false
  x_TooLong_NoRule : PySem.W.exmOne K (.ref (He.ga K "TooLong")) (.ref (He.ga K "NoRule")) = some false
  x_TooLong_Circling : PySem.W.exmOne K (.ref (He.ga K "TooLong")) (.ref (He.ga K "Circling")) = some false
  x_TooLong_OutOfPlace : PySem.W.exmOne K (.ref (He.ga K "TooLong")) (.ref (He.ga K "OutOfPlace")) = some false
  x_TooLong_TooLong : PySem.W.exmOne K (.ref (He.ga K "TooLong")) (.ref (He.ga K "TooLong")) = some true
  x_TooLong_NoNotes : PySem.W.exmOne K (.ref (He.ga K "TooLong")) (.ref (He.ga K "NoNotes")) = some false
  x_NoNotes_GrammarError : PySem.W.exmOne K (.ref (He.ga K "NoNotes")) (.ref (He.ga K "GrammarError")) = some true
  x_NoNotes_NoGrammar : PySem.W.exmOne K (.ref (He.ga K "NoNotes")) (.ref (He.ga K "NoGrammar")) = some false
  x_NoNotes_NoRule : PySem.W.exmOne K (.ref (He.ga K "NoNotes")) (.ref (He.ga K "NoRule")) = some false
  x_NoNotes_Circling : PySem.W.exmOne K (.ref (He.ga K "NoNotes")) (.ref (He.ga K "Circling")) = some false
  x_NoNotes_OutOfPlace : PySem.W.exmOne K (.ref (He.ga K "NoNotes")) (.ref (He.ga K "OutOfPlace")) = some false
  x_NoNotes_TooLong : PySem.W.exmOne K (.ref (He.ga K "NoNotes")) (.ref (He.ga K "TooLong")) = some false
  x_NoNotes_NoNotes : PySem.W.exmOne K (.ref (He.ga K "NoNotes")) (.ref (He.ga K "NoNotes")) = some true
  g_Grammar : mg "Grammar" = some (.ref (He.ga K "Grammar"))
  c_Grammar : Cls K (He.ga K "Grammar")
  k_Grammar : Mk K (He.ga K "Grammar") (He.ma K (He.ga K "Grammar") "__init__")
  n_Grammar_parts : NoAttr K (He.ga K "Grammar") "parts"
  n_Grammar_empty : NoAttr K (He.ga K "Grammar") "empty"
  v_SIGNS : ∃ t, mg "SIGNS" = some (.str signsS t)
  v_LETTERS : ∃ t, mg "LETTERS" = some (.str lettersS t)
  v_MOST_LETTERS : ∃ t, mg "MOST_LETTERS" = some (.int 12 t)
  v_MOST_DEEP : ∃ t, mg "MOST_DEEP" = some (.int 12 t)
  v_MOST_RULES : ∃ t, mg "MOST_RULES" = some (.int 40 t)
  b_ValueError : mg "ValueError" = none
  b_all : mg "all" = none
  b_any : mg "any" = none
  b_int : mg "int" = none
  b_isinstance : mg "isinstance" = none
  b_len : mg "len" = none
  b_list : mg "list" = none
  b_min : mg "min" = none
  b_ord : mg "ord" = none
  b_range : mg "range" = none
  b_str : mg "str" = none
  b_tuple : mg "tuple" = none
  d_is_sign : AtE K mg "is_sign" s_is_sign P_is_sign
  d_is_name : AtE K mg "is_name" s_is_name P_is_name
  d_is_leaf : AtE K mg "is_leaf" s_is_leaf P_is_leaf
  d_is_part : AtE K mg "is_part" s_is_part P_is_part
  d_within : AtE K mg "within" s_within P_within
  d_rules_in : AtE K mg "rules_in" s_rules_in P_rules_in
  d_may_be_empty : AtE K mg "may_be_empty" s_may_be_empty P_may_be_empty
  d_empty_rules : AtE K mg "empty_rules" s_empty_rules P_empty_rules
  d_asked_ahead : AtE K mg "asked_ahead" s_asked_ahead P_asked_ahead
  d_comes_back : AtE K mg "comes_back" s_comes_back P_comes_back
  m_Grammar_init : AtM K "Grammar" "__init__" "Grammar.__init__" s_Grammar_init P_Grammar_init
  m_Grammar_need : AtM K "Grammar" "need" "Grammar.need" s_Grammar_need P_Grammar_need
  m_Grammar_names : AtM K "Grammar" "names" "Grammar.names" s_Grammar_names P_Grammar_names
  m_Grammar_part : AtM K "Grammar" "part" "Grammar.part" s_Grammar_part P_Grammar_part
  d_word_at : AtE K mg "word_at" s_word_at P_word_at
  d_number_at : AtE K mg "number_at" s_number_at P_number_at
  d_sign_at : AtE K mg "sign_at" s_sign_at P_sign_at
  d_leaf_at : AtE K mg "leaf_at" s_leaf_at P_leaf_at
  d_opened_at : AtE K mg "opened_at" s_opened_at P_opened_at
  d_closed : AtE K mg "closed" s_closed P_closed
  d_part_of : AtE K mg "part_of" s_part_of P_part_of
  d_grammar_of : AtE K mg "grammar_of" s_grammar_of P_grammar_of
  d_law_cell_at : AtE K mg "_law_cell_at" s_law_cell_at P_law_cell_at
  d_law_sign_by : AtE K mg "_law_sign_by" s_law_sign_by P_law_sign_by
  d_law_marks : AtE K mg "_law_marks" s_law_marks P_law_marks
  d_law_alone : AtE K mg "_law_alone" s_law_alone P_law_alone
  d_law_refusal : AtE K mg "_law_refusal" s_law_refusal P_law_refusal
  d_law_signs_row : AtE K mg "_law_signs_row" s_law_signs_row P_law_signs_row
  d_law_signed : AtE K mg "_law_signed" s_law_signed P_law_signed
  d_law_broken : AtE K mg "_law_broken" s_law_broken P_law_broken
  d_law_deep : AtE K mg "_law_deep" s_law_deep P_law_deep
  d_law_more_rows : AtE K mg "_law_more_rows" s_law_more_rows P_law_more_rows
  d_law_odd_row : AtE K mg "_law_odd_row" s_law_odd_row P_law_odd_row
  d_law : AtE K mg "law" s_law P_law
  q : ckAll K = true
end Law

set_option Elab.async false
set_option linter.all false
set_option maxRecDepth 100000
set_option maxHeartbeats 4000000
/-! parts.py: what each def does. -/
namespace Law
open PySem PySem.Spec PyProof.Rows L2 G
section
variable {P : Program} {w : World} {K : PySem.W.Frag} {mg : Str → Option Value} {base : Heap}
def isStrD : Dt → Bool
  | .str _ => true
  | _ => false
def isTupD : Dt → Bool
  | .tup _ => true
  | _ => false
theorem kit_n : kitB "NoneType" "str" = some false ∧ kitB "bool" "str" = some false ∧ kitB "int" "str" = some false ∧ kitB "str" "str" = some true ∧ kitB "list" "str" = some false ∧ kitB "tuple" "str" = some false := by decide +kernel
theorem kit_t : kitB "NoneType" "tuple" = some false ∧ kitB "bool" "tuple" = some false ∧ kitB "int" "tuple" = some false ∧ kitB "str" "tuple" = some false ∧ kitB "list" "tuple" = some false ∧ kitB "tuple" "tuple" = some true := by decide +kernel
theorem kitS {d : Dt} (hp : pl1 d = true) : kitB (tyD d) "str" = some (isStrD d) := by
  obtain ⟨h1, h2, h3, h4, h5, h6⟩ := kit_n
  cases d <;> first | (cases hp; done) | assumption
theorem kitT {d : Dt} (hp : pl1 d = true) : kitB (tyD d) "tuple" = some (isTupD d) := by
  obtain ⟨h1, h2, h3, h4, h5, h6⟩ := kit_t
  cases d <;> first | (cases hp; done) | assumption
theorem str_of_len1 {s : Str} (h : s.length = 1) : ∃ c, s = ⟨#[c]⟩ := by
  obtain ⟨⟨l⟩⟩ := s
  match l, h with
  | [c], _ => exact ⟨c, rfl⟩
theorem isSign_ne {t : Str} (h : t.length ≠ 1) : isSignD (.str t) = false := by
  obtain ⟨⟨l⟩⟩ := t
  match l, h with
  | [], _ => rfl
  | [c], h => exact absurd rfl h
  | _ :: _ :: _, _ => rfl
theorem sz5 {n : Nat} (h : n ≤ 100000) : n ≤ sizeLine := Nat.le_trans h (by decide)

/-! is_sign -/
def pIsSign (_ : Hp) (ds : List Dt) (r : Res) : Prop := ∃ d, ds = [d] ∧ r = .ok (.bl (isSignD d)) ∧ okD d = true
theorem ok_is_sign (T : Txt K mg) : Cal P w K mg base CX0 1 "is_sign" (spR pIsSign) := by
  obtain ⟨f, fd, a⟩ := T.d_is_sign
  refine a.cal (fn_D a.fn sc_is_sign (fun F ds r h => ?_) (fun F ds C h => ?_) (fun X A B Bf hr F ds d h => ?_))
  · obtain ⟨_, rfl, _⟩ := h; rfl
  · obtain ⟨_, _, h, _⟩ := h; cases h
  · obtain ⟨x, rfl, hd, hx⟩ := h
    cases hd
    have hp := okD_pl1 hx
    refine s_ret (d_and (d_isi T.b_isinstance (d_v 0 rfl) (d_bty T.b_str) hp (kitS hp)) (fun h1 => ?_) (fun h1 => ?_)) rfl
    · cases x with
      | str t =>
        have hz : t.length ≤ 100000 := by simpa [okD] using hx
        refine d_and (d_eq (d_lenS T.b_len (d_v 0 rfl) (sz5 hz)) d_int) (fun h2 => ?_) (fun h2 => ?_)
        · have hl : t.length = 1 := by
            have : ((t.length : Nat) : Int) = 1 := of_decide_eq_true h2
            omega
          obtain ⟨c, rfl⟩ := str_of_len1 hl
          obtain ⟨tk, hv⟩ := T.v_SIGNS
          exact d_one ((d_inS (d_v 0 rfl) (d_gstr hv)).to rfl)
        · have hl : t.length ≠ 1 := by
            intro e
            have : ¬ ((t.length : Nat) : Int) = 1 := of_decide_eq_false h2
            omega
          rw [isSign_ne hl]
      | _ => cases h1
    · cases x <;> first | rfl | cases h1
/-! is_name -/
def pIsName (_ : Hp) (ds : List Dt) (r : Res) : Prop := ∃ d, ds = [d] ∧ r = .ok (.bl (isNameD d)) ∧ okD d = true
/-- a text, sign by sign -/
theorem i_str {X : Cx} {F : Hp} {δ : Sl} {e tg : Expr} {t : Str} (he : EvD X F e δ (.str t)) : IterD X F [] tg e δ (t.cps.toList.map fun c => Dt.str (sg c)) := fun F1 H σ R s c k =>
  wi (pi_str pe) (he F1 H σ _ s c fun v F2 H2 e2 r2 => by
    cases r2
    refine ⟨t, rfl, k _ F2 H2 e2 ⟨fun i H' s' _ hi => ?_, fun i d m Fc H' x H'' hi s1 s2 _ hy => ?_, fun i H' s' _ hi => ?_⟩⟩
    · show i < t.cps.size
      simpa using hi
    · obtain ⟨rfl, c, hc, rfl⟩ := hy
      rw [List.getElem?_map] at hi
      obtain ⟨c', h1, rfl⟩ := Option.map_eq_some_iff.mp hi
      rw [Array.getElem?_toList, hc] at h1
      cases h1
      exact ⟨Fc, .refl s2, .str _⟩
    · show t.cps.size ≤ i
      simpa using hi)
theorem isName_str {t : Str} : isNameD (.str t) = ((decide (1 ≤ t.length) && decide (t.length ≤ 12)) && t.cps.toList.all fun c => decide (c ∈ lettersS.cps.toList)) := rfl
theorem ok_is_name (T : Txt K mg) : Cal P w K mg base CX0 1 "is_name" (spR pIsName) := by
  obtain ⟨f, fd, a⟩ := T.d_is_name
  refine a.cal (fn_D a.fn sc_is_name (fun F ds r h => ?_) (fun F ds C h => ?_) (fun X A B Bf hr F ds d h => ?_))
  · obtain ⟨_, rfl, _⟩ := h; rfl
  · obtain ⟨_, _, h, _⟩ := h; cases h
  · obtain ⟨x, rfl, hd, hx⟩ := h
    cases hd
    have hp := okD_pl1 hx
    obtain ⟨tk, hv⟩ := T.v_LETTERS
    obtain ⟨tm, hm⟩ := T.v_MOST_LETTERS
    cases hs : isStrD x with
    | true =>
      cases x with
      | str t =>
        have hz : t.length ≤ 100000 := by simpa [okD] using hx
        have e2 : decide ((1 : Int) ≤ (t.length : Nat)) = decide (1 ≤ t.length) := by rw [decide_eq_decide]; omega
        have e3 : decide (((t.length : Nat) : Int) ≤ 12) = decide (t.length ≤ 12) := by rw [decide_eq_decide]; omega
        refine s_when (t_w (w_or (t_not (t_val (d_isi T.b_isinstance (d_v 0 rfl) (d_bty T.b_str) hp (kitS hp)))) (fun _ => w_or1 (t_not (t_chain_le d_int (d_lenS T.b_len (d_v 0 rfl) (sz5 hz)) (d_gint hm)))))) (fun h1 => ?_) (fun h1 => ?_)
        · rw [e2, e3] at h1
          have h0 : isNameD (.str t) = false := by
            rw [isName_str]
            revert h1
            generalize (decide (1 ≤ t.length) && decide (t.length ≤ 12)) = q
            cases q
            · intro _; rfl
            · intro h; cases h
          exact s_ret d_bl (by rw [h0]; rfl)
        · rw [e2, e3] at h1
          have h2 : (decide (1 ≤ t.length) && decide (t.length ≤ 12)) = true := by
            revert h1
            generalize (decide (1 ≤ t.length) && decide (t.length ≤ 12)) = q
            cases q
            · intro h; cases h
            · intro _; rfl
          have e4 : isNameD (.str t) = (t.cps.toList.map fun c => decide (c ∈ lettersS.cps.toList)).all id := by
            rw [isName_str, h2, Bool.true_and, List.all_map]
            rfl
          refine s_ret (d_all T.b_all (EvD.to (d_lc0 1 (fun c => Dt.bl (decide (c ∈ lettersS.cps.toList))) (i_str (d_v 0 rfl)) rfl (fun c hc X' B' => ?_) ?_) ?_)) (by rw [e4]; rfl)
          · exact (d_inS (c := c) (d_v 1 rfl) (d_gstr hv)).to rfl
          · exact Nat.lt_of_le_of_lt hz (by decide)
          · rw [List.map_map]
            rfl
      | _ => cases hs
    | false =>
      have e : isNameD x = false := by cases x <;> first | rfl | cases hs
      refine s_ifT (t_w ((w_or (t_not (t_val (d_isi T.b_isinstance (d_v 0 rfl) (d_bty T.b_str) hp (kitS hp)))) (fun h => by rw [hs] at h; cases h) (q := true)).to (by rw [hs]; rfl))) (s_ret d_bl (by rw [e]; rfl))
theorem ne_self {s : Str} (h : sameD (.str s) (.str s) = false) : False := by simp [sameD] at h
theorem lenT {n k : Nat} (h : sameD (.int (n : Nat)) (.int (k : Nat)) = true) : n = k := by
  have : (n : Int) = (k : Int) := of_decide_eq_true h
  omega
theorem at0 {x : Dt} {t : List Dt} : atI (x :: t) 0 = some x := atI_nat (j := 0) rfl
theorem at1 {x y : Dt} {t : List Dt} : atI (x :: y :: t) 1 = some y := atI_nat (j := 1) rfl
theorem at2 {x y z : Dt} {t : List Dt} : atI (x :: y :: z :: t) 2 = some z := atI_nat (j := 2) rfl
/-! is_leaf: of a tuple that begins with a text -/
def pIsLeaf (_ : Hp) (ds : List Dt) (r : Res) : Prop := ∃ h t, ds = [.tup (.str h :: t)] ∧ r = .ok (.bl (isLeafD h t)) ∧ okDs t = true ∧ t.length ≤ 100000
theorem isLeaf_any {t : List Dt} : isLeafD "any" t = (t.length == 0) := by simp [isLeafD]
theorem eqS_true {s t : Str} (h : sameD (.str s) (.str t) = true) : s = t := of_decide_eq_true h
theorem eqS_false {s t : Str} (h : sameD (.str s) (.str t) = false) : s ≠ t := of_decide_eq_false h
theorem lenI {n k : Nat} : sameD (.int (n : Nat)) (.int (k : Nat)) = decide (n = k) := by
  show decide ((n : Int) = (k : Int)) = decide (n = k)
  rw [decide_eq_decide]; omega
theorem okDs_cons {d : Dt} {ds : List Dt} (h : okDs (d :: ds) = true) : okD d = true ∧ okDs ds = true := by rw [okDs, Bool.and_eq_true] at h; exact h
def oneStr : List Dt → Bool
  | [.str _] => true
  | _ => false
theorem isLeaf_rule {h : Str} {t : List Dt} (n1 : h ≠ "any") (n2 : h ≠ "sign") (n3 : h ≠ "span") : isLeafD h t = (decide (h = "rule") && oneStr t) := by
  unfold isLeafD
  rw [if_neg n1, if_neg n2, if_neg n3]
  rfl
theorem len1I {n : Nat} : sameD (.int ((n + 1 : Nat) : Int)) (.int 1) = decide (n = 0) := by
  show decide (((n + 1 : Nat) : Int) = 1) = decide (n = 0)
  rw [decide_eq_decide]; omega
theorem ok_is_leaf (T : Txt K mg) : Cal P w K mg base CX0 2 "is_leaf" (spR pIsLeaf) := by
  obtain ⟨f, fd, a⟩ := T.d_is_leaf
  refine a.cal (fn_D a.fn sc_is_leaf (fun F ds r h => ?_) (fun F ds C h => ?_) (fun X A B Bf hr F ds d h => ?_))
  · obtain ⟨_, _, rfl, _⟩ := h; rfl
  · obtain ⟨_, _, _, h, _⟩ := h; cases h
  · obtain ⟨h, t, rfl, hd, ht, hz⟩ := h
    cases hd
    have hS := ok_is_sign (P := P) (w := w) (base := base) T
    refine s_when (t_eq (d_ixT (d_v 0 rfl) d_int at0) d_str) (fun h1 => ?_) (fun h1 => ?_)
    · cases eqS_true h1
      exact s_ret (d_eq (d_lenT T.b_len (d_v 0 rfl)) d_int) (by rw [isLeaf_any, List.length_cons, len1I]; rfl)
    refine s_when (t_eq (d_ixT (d_v 0 rfl) d_int at0) d_str) (fun h2 => ?_) (fun h2 => ?_)
    · cases eqS_true h2
      refine s_ret (d_and (d_eq (d_lenT T.b_len (d_v 0 rfl)) d_int) (fun h3 => ?_) (fun h3 => ?_)) (d := .bl (isLeafD "sign" t)) rfl
      · match t, h3, ht with
        | [], h3, _ => cases h3
        | [x], _, ht => exact d_one ((d_call hS hr (a_one (d_ixT (d_v 0 rfl) d_int rfl)) (fun F1 _ => ⟨x, rfl, rfl, (okDs_cons ht).1⟩)).to (by simp [isLeafD]))
        | x :: y :: r, h3, _ =>
          have := lenT (k := 2) h3
          simp only [List.length_cons] at this
          omega
      · match t, h3 with
        | [], h3 => simp [isLeafD]
        | [x], h3 => cases h3
        | x :: y :: r, h3 => simp [isLeafD]
    refine s_when (t_eq (d_ixT (d_v 0 rfl) d_int at0) d_str) (fun h2 => ?_) (fun h3 => ?_)
    · cases eqS_true h2
      refine s_ret (d_and (d_eq (d_lenT T.b_len (d_v 0 rfl)) d_int) (fun h3 => ?_) (fun h3 => ?_)) (d := .bl (isLeafD "span" t)) rfl
      · match t, h3, ht with
        | [], h3, _ => cases h3
        | [x], h3, _ => cases h3
        | [x, y], _, ht =>
          have h4 := okDs_cons ht
          have h5 := okDs_cons h4.2
          refine EvD.to (d_andB (d_call hS hr (a_one (d_ixT (d_v 0 rfl) d_int rfl)) (fun F1 _ => ⟨x, rfl, rfl, h4.1⟩)) (fun h6 => d_andB (d_call hS hr (a_one (d_ixT (d_v 0 rfl) d_int rfl)) (fun F1 _ => ⟨y, rfl, rfl, h5.1⟩)) (fun h7 => d_one (EvD.to (d := .bl (leD x y)) ?_ rfl)))) ?_
          · cases x with
            | str x =>
              cases y with
              | str y => exact d_leS (d_ixT (d_v 0 rfl) d_int rfl) (d_ixT (d_v 0 rfl) d_int rfl)
              | _ => cases h7
            | _ => cases h6
          · simp [isLeafD, Bool.and_assoc]
        | x :: y :: z :: r, h3, _ =>
          have := lenT (k := 3) h3
          simp only [List.length_cons] at this
          omega
      · match t, h3 with
        | [], h3 => simp [isLeafD]
        | [x], h3 => simp [isLeafD]
        | [x, y], h3 => cases h3
        | x :: y :: z :: r, h3 => simp [isLeafD]
    · have n1 := eqS_false h1
      have n2 := eqS_false h2
      have n3 := eqS_false h3
      have e0 := isLeaf_rule (t := t) n1 n2 n3
      refine s_ret (d_and (d_eq (d_ixT (d_v 0 rfl) d_int at0) d_str) (fun h3 => ?_) (fun h3 => ?_)) (d := .bl (isLeafD h t)) rfl
      · cases eqS_true h3
        rw [e0]
        refine d_and (d_eq (d_lenT T.b_len (d_v 0 rfl)) d_int) (fun h3 => ?_) (fun h3 => ?_)
        · match t, h3, ht with
          | [], h3, _ => cases h3
          | [x], _, ht =>
            have hp := okD_pl1 (okDs_cons ht).1
            refine d_one ((d_isi T.b_isinstance (d_ixT (d_v 0 rfl) d_int rfl) (d_bty T.b_str) hp (kitS hp)).to ?_)
            cases x <;> rfl
          | x :: y :: r, h3, _ =>
            have := lenT (k := 2) h3
            simp only [List.length_cons] at this
            omega
        · match t, h3 with
          | [], h3 => rfl
          | [x], h3 => cases h3
          | x :: y :: r, h3 =>
            have : oneStr (x :: y :: r) = false := by cases x <;> rfl
            rw [this]; rfl
      · have := eqS_false h3
        rw [e0, decide_eq_false this]
        rfl
/-! is_part -/
def pIsPart (n : Nat) (_ : Hp) (ds : List Dt) (r : Res) : Prop := ∃ d, ds = [d, .int n] ∧ r = .ok (.bl (isPartD n d)) ∧ okD d = true
theorem isPart_zero (d : Dt) : isPartD 0 d = false := by unfold isPartD; rfl
theorem isPart_ntup {n : Nat} {d : Dt} (h : isTupD d = false) : isPartD n d = false := by
  cases n with
  | zero => exact isPart_zero d
  | succ n => cases d <;> first | (cases h; done) | (unfold isPartD; rfl)
theorem isPart_nil {n : Nat} : isPartD n (.tup []) = false := by
  cases n with
  | zero => exact isPart_zero _
  | succ n => unfold isPartD; rfl
theorem isPart_nstr {n : Nat} {d : Dt} {t : List Dt} (h : isStrD d = false) : isPartD n (.tup (d :: t)) = false := by
  cases n with
  | zero => exact isPart_zero _
  | succ n => cases d <;> first | (cases h; done) | (unfold isPartD; rfl)
def ofRow (n : Nat) (h : Str) : List Dt → Bool
  | [.tup ds] => !(decide (h = "or") && ds.isEmpty) && ds.all (isPartD n)
  | _ => false
def ofMany (n : Nat) : List Dt → Bool
  | [x] => isPartD n x
  | _ => false
theorem isPart_str {n : Nat} {h : Str} {t : List Dt} : isPartD (n + 1) (.tup (.str h :: t)) = if h = "row" ∨ h = "or" then ofRow n h t else if h = "many" ∨ h = "not" then ofMany n t else isLeafD h t := by
  rcases t with _ | ⟨x, _ | ⟨y, r⟩⟩
  · simp [isPartD, ofRow, ofMany]
  · cases x <;> simp [isPartD, ofRow, ofMany]
  · cases x <;> simp [isPartD, ofRow, ofMany]
theorem int_ne0 {n : Nat} : sameD (.int ((n + 1 : Nat) : Int)) (.int 0) = false := by
  show decide (((n + 1 : Nat) : Int) = 0) = false
  exact decide_eq_false (by omega)
theorem okD_tup {ds : List Dt} (h : okD (.tup ds) = true) : okDs ds = true ∧ ds.length ≤ 100000 := by
  rw [okD, Bool.and_eq_true, decide_eq_true_eq] at h
  exact h
theorem ok_is_part (T : Txt K mg) : ∀ n : Nat, Cal P w K mg base CX0 (n + 3) "is_part" (spR (pIsPart n)) := by
  intro n
  obtain ⟨f, fd, a⟩ := id T.d_is_part
  have hS := ok_is_leaf (P := P) (w := w) (base := base) T
  suffices H : ∀ n : Nat, FnOk P w K mg base CX0 (n + 3) f fd P_is_part (spR (pIsPart n)) from a.cal (H n)
  intro n
  induction n with
  | zero =>
    refine fn_D a.fn sc_is_part (fun F ds r h => ?_) (fun F ds C h => ?_) (fun X A B Bf hr F ds d h => ?_)
    · obtain ⟨_, rfl, _⟩ := h; rfl
    · obtain ⟨_, _, h, _⟩ := h; cases h
    obtain ⟨x, rfl, hd, hx⟩ := h
    cases hd
    exact s_ifT (t_w ((w_or (t_eq (d_v 1 rfl) d_int) (fun h => by simp [sameD] at h) (q := true)).to rfl)) (s_ret d_bl (by rw [isPart_zero]; rfl))
  | succ n ih =>
    have hP : Cal P w K mg base CX0 (n + 3) "is_part" (spR (pIsPart n)) := a.cal ih
    refine fn_D a.fn sc_is_part (fun F ds r h => ?_) (fun F ds C h => ?_) (fun X A B Bf hr F ds d h => ?_)
    · obtain ⟨_, rfl, _⟩ := h; rfl
    · obtain ⟨_, _, h, _⟩ := h; cases h
    obtain ⟨x, rfl, hd, hx⟩ := h
    cases hd
    have hp := okD_pl1 hx
    have e0 : sameD (.int ((n + 1 : Nat) : Int)) (.int 0) = false := int_ne0
    cases hT : isTupD x with
    | false =>
      exact s_ifT (t_w ((w_or (t_eq (d_v 1 rfl) d_int) (fun _ => w_or (t_not (t_val (d_isi T.b_isinstance (d_v 0 rfl) (d_bty T.b_tuple) hp (kitT hp)))) (fun h => by rw [hT] at h; cases h) (q := true))).to (by rw [e0, hT]; rfl))) (s_ret d_bl (by rw [isPart_ntup hT]; rfl))
    | true =>
    cases x with
    | tup l =>
      have hx2 := okD_tup hx
      cases l with
      | nil =>
        exact s_ifT (t_w ((w_or (t_eq (d_v 1 rfl) d_int) (fun _ => w_or (t_not (t_val (d_isi T.b_isinstance (d_v 0 rfl) (d_bty T.b_tuple) hp (kitT hp)))) (fun _ => w_or (t_eq (d_lenT T.b_len (d_v 0 rfl)) d_int) (fun h => by simp [sameD] at h) (q := true)))).to (by rw [e0]; rfl))) (s_ret d_bl (by rw [isPart_nil]; rfl))
      | cons h t =>
      have ho := okDs_cons hx2.1
      have hph := okD_pl1 ho.1
      have e1 : sameD (.int (((h :: t).length : Nat) : Int)) (.int 0) = false := int_ne0
      have hz : t.length ≤ 100000 := by have := hx2.2; simp only [List.length_cons] at this; omega
      refine s_when (k := !isStrD h) (t_w ((w_or (t_eq (d_v 1 rfl) d_int) (fun _ => w_or (t_not (t_val (d_isi T.b_isinstance (d_v 0 rfl) (d_bty T.b_tuple) hp (kitT hp)))) (fun _ => w_or (t_eq (d_lenT T.b_len (d_v 0 rfl)) d_int) (fun _ => w_or1 (t_not (t_val (d_isi T.b_isinstance (d_ixT (d_v 0 rfl) d_int at0) (d_bty T.b_str) hph (kitS hph)))))))).to (by rw [e0, e1]; simp [isTupD]))) (fun h1 => ?_) (fun h1 => ?_)
      · exact s_ret d_bl (by rw [isPart_nstr (by simpa using h1)]; rfl)
      cases h with
      | str h =>
        rw [isPart_str]
        have eD : ((n + 1 : Nat) : Int) - 1 = (n : Nat) := by omega
        refine s_when (t_w (w_or (t_eq (d_ixT (d_v 0 rfl) d_int at0) d_str) (fun _ => w_or1 (t_eq (d_ixT (d_v 0 rfl) d_int at0) d_str)))) (fun h1 => ?_) (fun h1 => ?_)
        · have hor : h = "row" ∨ h = "or" := by
            rw [Bool.or_eq_true] at h1
            exact h1.imp eqS_true eqS_true
          rw [if_pos hor]
          have or2 : ∀ b, sameD (.str h) (.str "or") = b → decide (h = "or") = b := fun b hb => hb
          match t, ho, hz with
          | [], _, _ => exact s_ifT (t_w ((w_or (t_ne (d_lenT T.b_len (d_v 0 rfl)) d_int) (fun h => by simp [sameD] at h) (q := true)).to rfl)) (s_ret d_bl rfl)
          | x :: y :: r, _, _ =>
            have e2 : sameD (.int (((Dt.str h :: x :: y :: r).length : Nat) : Int)) (.int 2) = false := by
              show decide (((r.length + 1 + 1 + 1 : Nat) : Int) = 2) = false
              exact decide_eq_false (by omega)
            have e3 : ofRow n h (x :: y :: r) = false := by cases x <;> rfl
            exact s_ifT (t_w ((w_or (t_ne (d_lenT T.b_len (d_v 0 rfl)) d_int) (fun h => by rw [e2] at h; cases h) (q := true)).to (by rw [e2]; rfl))) (s_ret d_bl (by rw [e3]; rfl))
          | [x], ho, _ =>
            have hpx := okD_pl1 (okDs_cons ho.2).1
            cases hxT : isTupD x with
            | false =>
              have e3 : ofRow n h [x] = false := by cases x <;> first | rfl | cases hxT
              exact s_ifT (t_w ((w_or (t_ne (d_lenT T.b_len (d_v 0 rfl)) d_int) (fun _ => w_or (t_not (t_val (d_isi T.b_isinstance (d_ixT (d_v 0 rfl) d_int at1) (d_bty T.b_tuple) hpx (kitT hpx)))) (fun h => by rw [hxT] at h; cases h) (q := true))).to (by rw [hxT]; rfl))) (s_ret d_bl (by rw [e3]; rfl))
            | true =>
            cases x with
            | tup ds =>
              have hds := okD_tup (okDs_cons ho.2).1
              have e5 : ofRow n h [.tup ds] = (!(decide (h = "or") && ds.isEmpty) && ds.all (isPartD n)) := rfl
              have e6 : sameD (.int ((ds.length : Nat) : Int)) (.int 0) = ds.isEmpty := by
                show decide (((ds.length : Nat) : Int) = 0) = ds.isEmpty
                cases ds with
                | nil => rfl
                | cons d r => exact decide_eq_false (by simp only [List.length_cons]; omega)
              refine s_when (k := decide (h = "or") && ds.isEmpty) (t_w ((w_or (t_ne (d_lenT T.b_len (d_v 0 rfl)) d_int) (fun _ => w_or (t_not (t_val (d_isi T.b_isinstance (d_ixT (d_v 0 rfl) d_int at1) (d_bty T.b_tuple) hpx (kitT hpx)))) (fun _ => w_or1 (t_w (w_and (t_eq (d_ixT (d_v 0 rfl) d_int at0) d_str) (fun _ => w_and1 (t_eq (d_lenT T.b_len (d_ixT (d_v 0 rfl) d_int at1)) d_int))))))).to (by rw [e6]; rfl))) (fun h2 => ?_) (fun h2 => ?_)
              · exact s_ret d_bl (by rw [e5, h2]; rfl)
              · refine s_ret (d_all T.b_all (EvD.to (d_lcD 2 (fun d => .bl (isPartD n d)) (i_tup (d_ixT (d_v 0 rfl) d_int at1)) rfl (fun d hd X' B' => d_call hP hr (a_cons (d_v 2 rfl) (a_one ((d_sub (d_v 1 rfl) d_int).to (by rw [eD])))) (fun F1 _ => ⟨d, rfl, rfl, okD_mem hds.1 hd⟩)) (Nat.lt_of_le_of_lt hds.2 (by decide))) (show _ = Dt.lst ((ds.map (isPartD n)).map .bl) by rw [List.map_map]; rfl))) ?_
                rw [e5, h2, List.all_map]
                rfl
            | _ => cases hxT
        · have hor : ¬ (h = "row" ∨ h = "or") := by
            rw [Bool.or_eq_false_iff] at h1
            rintro (q | q)
            · exact eqS_false h1.1 q
            · exact eqS_false h1.2 q
          rw [if_neg hor]
          refine s_when (t_w (w_or (t_eq (d_ixT (d_v 0 rfl) d_int at0) d_str) (fun _ => w_or1 (t_eq (d_ixT (d_v 0 rfl) d_int at0) d_str)))) (fun h1 => ?_) (fun h1 => ?_)
          · have hor : h = "many" ∨ h = "not" := by
              rw [Bool.or_eq_true] at h1
              exact h1.imp eqS_true eqS_true
            rw [if_pos hor]
            refine s_ret (d_and (d_eq (d_lenT T.b_len (d_v 0 rfl)) d_int) (fun h3 => ?_) (fun h3 => ?_)) (d := .bl (ofMany n t)) rfl
            · match t, h3, ho with
              | [], h3, _ => cases h3
              | [x], _, ho => exact d_one (d_call hP hr (a_cons (d_ixT (d_v 0 rfl) d_int at1) (a_one ((d_sub (d_v 1 rfl) d_int).to (by rw [eD])))) (fun F1 _ => ⟨x, rfl, rfl, (okDs_cons ho.2).1⟩))
              | x :: y :: r, h3, _ =>
                have := lenT (k := 2) h3
                simp only [List.length_cons] at this
                omega
            · match t, h3 with
              | [], h3 => rfl
              | [x], h3 => cases h3
              | x :: y :: r, h3 => rfl
          · have hor : ¬ (h = "many" ∨ h = "not") := by
              rw [Bool.or_eq_false_iff] at h1
              rintro (q | q)
              · exact eqS_false h1.1 q
              · exact eqS_false h1.2 q
            rw [if_neg hor]
            exact s_ret (d_call hS (hr.mono (by omega)) (a_one (d_v 0 rfl)) (fun F1 _ => ⟨h, t, rfl, rfl, ho.2, hz⟩)) rfl
      | _ => cases h1
    | _ => cases hT
/-! within -/
def pWithin (_ : Hp) (ds : List Dt) (r : Res) : Prop := ∃ p : Part, ds = [p.dt] ∧ r = .ok (.lst (p.subs.map Part.dt))
theorem ok_within (T : Txt K mg) : Cal P w K mg base CX0 1 "within" (spR pWithin) := by
  obtain ⟨f, fd, a⟩ := T.d_within
  refine a.cal (fn_D a.fn sc_within (fun F ds r h => ?_) (fun F ds C h => ?_) (fun X A B Bf hr F ds d h => ?_))
  · obtain ⟨_, rfl, _⟩ := h; rfl
  · obtain ⟨_, _, h⟩ := h; cases h
  obtain ⟨p, rfl, hd⟩ := h
  cases hd
  cases p with
  | row ps =>
    rw [Part.dt, Part.subs, ← Part.dts_map]
    exact s_ifT (t_w ((w_or (t_eq (d_ixT (d_v 0 rfl) d_int at0) d_str) (fun h => (ne_self h).elim) (q := true)).to rfl)) (s_ret (d_listT T.b_list (d_ixT (d_v 0 rfl) d_int at1)) rfl)
  | or ps =>
    rw [Part.dt, Part.subs, ← Part.dts_map]
    exact s_ifT (t_w ((w_or (t_eq (d_ixT (d_v 0 rfl) d_int at0) d_str) (fun _ => w_or1 (t_eq (d_ixT (d_v 0 rfl) d_int at0) d_str))).to rfl)) (s_ret (d_listT T.b_list (d_ixT (d_v 0 rfl) d_int at1)) rfl)
  | many p =>
    rw [Part.dt, Part.subs]
    exact s_no (t_w ((w_or (t_eq (d_ixT (d_v 0 rfl) d_int at0) d_str) (fun _ => w_or1 (t_eq (d_ixT (d_v 0 rfl) d_int at0) d_str))).to rfl)) (s_ifT (t_w ((w_or (t_eq (d_ixT (d_v 0 rfl) d_int at0) d_str) (fun h => (ne_self h).elim) (q := true)).to rfl)) (s_ret (d_lst (a_one (d_ixT (d_v 0 rfl) d_int at1))) rfl))
  | not p =>
    rw [Part.dt, Part.subs]
    exact s_no (t_w ((w_or (t_eq (d_ixT (d_v 0 rfl) d_int at0) d_str) (fun _ => w_or1 (t_eq (d_ixT (d_v 0 rfl) d_int at0) d_str))).to rfl)) (s_ifT (t_w ((w_or (t_eq (d_ixT (d_v 0 rfl) d_int at0) d_str) (fun _ => w_or1 (t_eq (d_ixT (d_v 0 rfl) d_int at0) d_str))).to rfl)) (s_ret (d_lst (a_one (d_ixT (d_v 0 rfl) d_int at1))) rfl))
  | _ =>
    simp only [Part.dt, Part.subs, List.map_nil]
    exact s_no (t_w ((w_or (t_eq (d_ixT (d_v 0 rfl) d_int at0) d_str) (fun _ => w_or1 (t_eq (d_ixT (d_v 0 rfl) d_int at0) d_str))).to rfl)) (s_no (t_w ((w_or (t_eq (d_ixT (d_v 0 rfl) d_int at0) d_str) (fun _ => w_or1 (t_eq (d_ixT (d_v 0 rfl) d_int at0) d_str))).to rfl)) (s_ret (d_lst a_nil) rfl))
/-! rules_in -/
def pRulesIn (n : Nat) (_ : Hp) (ds : List Dt) (r : Res) : Prop := ∃ p : Part, ds = [p.dt] ∧ p.deep ≤ n ∧ p.size ≤ 100000 ∧ r = .ok (.lst (p.rules.map .str))
theorem rules_subs {p : Part} (h : ∀ s, p ≠ .rule s) : p.rules = p.subs.flatMap Part.rules := by
  cases p <;> first | (simp [Part.rules, Part.subs, Part.ruless_eq]; done) | exact absurd rfl (h _)
theorem size_subs {p q : Part} (h : q ∈ p.subs) : q.size < p.size := by
  cases p <;> simp only [Part.subs, List.mem_nil_iff, List.mem_singleton, List.not_mem_nil] at h
  · exact Nat.lt_succ_of_le (Part.size_mem h)
  · exact Nat.lt_succ_of_le (Part.size_mem h)
  · subst h; exact Nat.lt_succ_self _
  · subst h; exact Nat.lt_succ_self _
theorem not_rule {p : Part} (h : ∀ s, p ≠ .rule s) : ∃ k t, p.dt = .tup (.str k :: t) ∧ sameD (.str k) (.str "rule") = false := by
  cases p <;> first | (rw [Part.dt]; exact ⟨_, _, rfl, by decide +kernel⟩) | exact absurd rfl (h _)
theorem ok_rules_in (T : Txt K mg) : ∀ n : Nat, Cal P w K mg base CX0 (n + 2) "rules_in" (spR (pRulesIn n)) := by
  intro n
  obtain ⟨f, fd, a⟩ := id T.d_rules_in
  have hS := ok_within (P := P) (w := w) (base := base) T
  suffices H : ∀ n : Nat, FnOk P w K mg base CX0 (n + 2) f fd P_rules_in (spR (pRulesIn n)) from a.cal (H n)
  intro n
  induction n with
  | zero =>
    refine fn_D a.fn sc_rules_in (fun F ds r h => ?_) (fun F ds C h => ?_) (fun X A B Bf hr F ds d h => ?_)
    · obtain ⟨_, rfl, _⟩ := h; rfl
    · obtain ⟨_, _, _, _, h⟩ := h; cases h
    obtain ⟨p, _, h, _⟩ := h
    have := Part.deep_pos p
    omega
  | succ n ih =>
    have hP : Cal P w K mg base CX0 (n + 2) "rules_in" (spR (pRulesIn n)) := a.cal ih
    refine fn_D a.fn sc_rules_in (fun F ds r h => ?_) (fun F ds C h => ?_) (fun X A B Bf hr F ds d h => ?_)
    · obtain ⟨_, rfl, _⟩ := h; rfl
    · obtain ⟨_, _, _, _, h⟩ := h; cases h
    obtain ⟨p, rfl, hdp, hz, hd⟩ := h
    cases hd
    by_cases hrule : ∃ s, p = .rule s
    · obtain ⟨s, rfl⟩ := hrule
      rw [Part.dt, Part.rules]
      exact s_ifT ((t_eq (d_ixT (d_v 0 rfl) d_int at0) d_str).to rfl) (s_ret (d_lst (a_one (d_ixT (d_v 0 rfl) d_int at1))) rfl)
    have hnr : ∀ s, p ≠ .rule s := fun s e => hrule ⟨s, e⟩
    obtain ⟨k, t, e0, e1⟩ := not_rule hnr
    refine s_no ((t_eq (d_ixT (EvD.to (d_v 0 rfl) e0) d_int at0) d_str).to e1) ?_
    refine s_asg 1 (d_lst a_nil) ?_
    refine s_for (I := fun i δ => δ = (⟨[some p.dt, some (.lst (((p.subs.take i).flatMap Part.rules).map .str)), none], []⟩ : Sl)) (i_lst (d_call hS (hr.mono (by omega)) (a_one (d_v 0 rfl)) (fun F1 _ => ⟨p, rfl, rfl⟩))) rfl ?_ ?_
    · rintro i d δi rfl hi
      rw [List.getElem?_map] at hi
      obtain ⟨q, hq, rfl⟩ := Option.map_eq_some_iff.mp hi
      have hm : q ∈ p.subs := List.mem_of_getElem? hq
      have h1 := Part.deep_subs hm
      have h2 := size_subs hm
      have tk : p.subs.take (i + 1) = p.subs.take i ++ [q] := by rw [List.take_succ, hq]; rfl
      have hz2 : ((p.subs.take i).flatMap Part.rules).length + q.rules.length ≤ 100000 := by
        have h3 := Part.rules_le p
        rw [rules_subs hnr] at h3
        have h4 : p.subs.flatMap Part.rules = (p.subs.take i).flatMap Part.rules ++ q.rules ++ (p.subs.drop (i + 1)).flatMap Part.rules := by
          conv => lhs; rw [← List.take_append_drop (i + 1) p.subs]
          rw [List.flatMap_append, tk, List.flatMap_append]
          simp
        rw [h4, List.length_append, List.length_append] at h3
        omega
      refine ⟨_, g_n 2, s_asg 1 ((d_cat (d_v 1 rfl) (d_call hP hr (a_one (d_v 2 rfl)) (fun F1 _ => ⟨q, rfl, by omega, by omega, rfl⟩)) (by rw [List.length_map, List.length_map]; exact sz5 hz2)).to (d' := .lst (((p.subs.take (i + 1)).flatMap Part.rules).map .str)) (by rw [tk, List.flatMap_append, List.map_append]; simp)) (s_nil ⟨_, .cons (.cons (.consN .nil)), rfl⟩)⟩
    · rintro δn rfl
      refine s_ret (d_v 1 rfl) ?_
      rw [List.length_map, List.take_length, ← rules_subs hnr]
      rfl
end
end Law

set_option Elab.async false
set_option linter.all false
set_option maxRecDepth 100000
set_option maxHeartbeats 4000000
/-! grammars.py: what each def does. -/
namespace Law
open PySem PySem.Spec PyProof.Rows L2 G
section
variable {P : Program} {w : World} {K : PySem.W.Frag} {mg : Str → Option Value} {base : Heap}
/-- the names in a dict -/
def inK (kvs : List (Key × Dt)) (s : Str) : Bool := (valD kvs (.inr s)).isSome
def pMay (n : Nat) (F : Hp) (ds : List Dt) (m : Mm) (R : Rem → Prop) : Prop := ∃ (p : Part) (q : Addr) (kvs : List (Key × Dt)), ds = [p.dt, .ref q] ∧ DkAt F m q kvs ∧ p.deep ≤ n ∧ p.size ≤ 100000 ∧ R = fun r => r = .ok (.bl (p.may (inK kvs))) m
theorem endM {m : Mm} {d : Dt} : EndM (fun r => r = .ok d m) (.ret d m) := ⟨m, SubP.refl _, rfl⟩
theorem ok_may (T : Txt K mg) : ∀ n : Nat, Cal P w K mg base (L2N.CX P w) (n + 1) "may_be_empty" (spM (pMay n)) := by
  intro n
  obtain ⟨f, fd, a⟩ := id T.d_may_be_empty
  suffices H : ∀ n : Nat, FnOk P w K mg base (L2N.CX P w) (n + 1) f fd P_may_be_empty (spM (pMay n)) from a.cal (H n)
  intro n
  induction n with
  | zero =>
    refine fn_M a.fn sc_may_be_empty (fun F ds m R h => ?_) (fun X A B Bf hr F ds m R h => ?_)
    · obtain ⟨_, _, _, rfl, _⟩ := h; rfl
    obtain ⟨p, _, _, _, _, h, _⟩ := h
    have := Part.deep_pos p
    omega
  | succ n ih =>
    have hP : Cal P w K mg base (L2N.CX P w) (n + 1) "may_be_empty" (spM (pMay n)) := a.cal ih
    refine fn_M a.fn sc_may_be_empty (fun F ds m R h => ?_) (fun X A B Bf hr F ds m R h => ?_)
    · obtain ⟨_, _, _, rfl, _⟩ := h; rfl
    obtain ⟨p, q, kvs, rfl, hd, hdp, hz, rfl⟩ := h
    cases p with
    | many p =>
      simp only [Part.dt, Part.may]
      exact s_ifT (t_w ((w_or (t_eq (d_ixT (d_v 0 rfl) d_int at0) d_str) (fun h => (ne_self h).elim) (q := true)).to rfl)) (s_ret d_bl endM)
    | not p =>
      simp only [Part.dt, Part.may]
      exact s_ifT (t_w ((w_or (t_eq (d_ixT (d_v 0 rfl) d_int at0) d_str) (fun _ => w_or1 (t_eq (d_ixT (d_v 0 rfl) d_int at0) d_str))).to rfl)) (s_ret d_bl endM)
    | row ps =>
      simp only [Part.deep] at hdp
      simp only [Part.size] at hz
      have hl := Part.length_le_sizes ps
      simp only [Part.dt, Part.may]
      refine s_no (t_w ((w_or (t_eq (d_ixT (d_v 0 rfl) d_int at0) d_str) (fun _ => w_or1 (t_eq (d_ixT (d_v 0 rfl) d_int at0) d_str))).to rfl)) (s_ifT ((t_eq (d_ixT (d_v 0 rfl) d_int at0) d_str).to rfl) ?_)
      refine s_ret ((d_all T.b_all (bs := ps.map (Part.may (inK kvs))) ?_).to (d' := .bl (Part.mayAll (inK kvs) ps)) (by rw [Part.mayAll_eq, List.all_map]; rfl)) endM
      rw [Part.dts_map]
      refine EvD.to (d_lc0 (l := ps) (g0 := Part.dt) 2 (fun p => .bl (p.may (inK kvs))) (i_tup (d_ixT (d_v 0 rfl) d_int at1)) rfl (fun p hp X' B' => ?_) (Nat.lt_of_le_of_lt (Nat.le_trans hl (show Part.sizes ps ≤ 100000 by omega)) (by decide))) (by rw [List.map_map]; rfl)
      exact (m_call hP hr (a_cons (d_v 2 rfl) (a_one (d_v 1 rfl))) (fun F1 h1 => ⟨p, q, kvs, rfl, hd.know h1, by have := Part.deep_mem hp; omega, by have := Part.size_mem hp; omega, rfl⟩)).ev (fun r h => h)
    | or ps =>
      simp only [Part.deep] at hdp
      simp only [Part.size] at hz
      have hl := Part.length_le_sizes ps
      simp only [Part.dt, Part.may]
      refine s_no (t_w ((w_or (t_eq (d_ixT (d_v 0 rfl) d_int at0) d_str) (fun _ => w_or1 (t_eq (d_ixT (d_v 0 rfl) d_int at0) d_str))).to rfl)) (s_no ((t_eq (d_ixT (d_v 0 rfl) d_int at0) d_str).to rfl) (s_ifT ((t_eq (d_ixT (d_v 0 rfl) d_int at0) d_str).to rfl) ?_))
      refine s_ret ((d_any T.b_any (bs := ps.map (Part.may (inK kvs))) ?_).to (d' := .bl (Part.mayAny (inK kvs) ps)) (by rw [Part.mayAny_eq, List.any_map]; rfl)) endM
      rw [Part.dts_map]
      refine EvD.to (d_lc0 (l := ps) (g0 := Part.dt) 2 (fun p => .bl (p.may (inK kvs))) (i_tup (d_ixT (d_v 0 rfl) d_int at1)) rfl (fun p hp X' B' => ?_) (Nat.lt_of_le_of_lt (Nat.le_trans hl (show Part.sizes ps ≤ 100000 by omega)) (by decide))) (by rw [List.map_map]; rfl)
      exact (m_call hP hr (a_cons (d_v 2 rfl) (a_one (d_v 1 rfl))) (fun F1 h1 => ⟨p, q, kvs, rfl, hd.know h1, by have := Part.deep_mem hp; omega, by have := Part.size_mem hp; omega, rfl⟩)).ev (fun r h => h)
    | rule s =>
      simp only [Part.dt, Part.may]
      refine s_no (t_w ((w_or (t_eq (d_ixT (d_v 0 rfl) d_int at0) d_str) (fun _ => w_or1 (t_eq (d_ixT (d_v 0 rfl) d_int at0) d_str))).to rfl)) (s_no ((t_eq (d_ixT (d_v 0 rfl) d_int at0) d_str).to rfl) (s_no ((t_eq (d_ixT (d_v 0 rfl) d_int at0) d_str).to rfl) ?_))
      exact s_ret (d_and (d_eq (d_ixT (d_v 0 rfl) d_int at0) d_str) (fun _ => d_one (d_inD (.inr s) hr (d_ixT (d_v 0 rfl) d_int at1) (d_v 1 rfl) hd)) (fun h => (ne_self h).elim)) endM
    | _ =>
      simp only [Part.dt, Part.may]
      refine s_no (t_w ((w_or (t_eq (d_ixT (d_v 0 rfl) d_int at0) d_str) (fun _ => w_or1 (t_eq (d_ixT (d_v 0 rfl) d_int at0) d_str))).to rfl)) (s_no ((t_eq (d_ixT (d_v 0 rfl) d_int at0) d_str).to rfl) (s_no ((t_eq (d_ixT (d_v 0 rfl) d_int at0) d_str).to rfl) ?_))
      exact s_ret (d_and (d_eq (d_ixT (d_v 0 rfl) d_int at0) d_str) (fun h => nomatch h) (fun h => rfl)) endM
/-! asked_ahead -/
def isRow : Part → Bool
  | .row _ => true
  | _ => false
theorem not_ruleR {p : Part} (h : ∀ s, p ≠ .rule s) : ∃ k t, p.dt = .tup (.str k :: t) ∧ sameD (.str k) (.str "rule") = false ∧ sameD (.str k) (.str "row") = isRow p := by
  cases p <;> first | (rw [Part.dt]; exact ⟨_, _, rfl, by decide +kernel, by simp only [isRow]; decide +kernel⟩) | exact absurd rfl (h _)
theorem aheadOr_eq (E : Str → Bool) : ∀ ps : List Part, Part.aheadOr E ps = ps.flatMap (Part.ahead E)
  | [] => rfl
  | p :: ps => by rw [Part.aheadOr, aheadOr_eq E ps]; rfl
theorem aheadRow_pre (E : Str → Bool) (q : Part) (post : List Part) : ∀ pre : List Part, (∀ x ∈ pre, x.may E = true) → Part.aheadRow E (pre ++ q :: post) = pre.flatMap (Part.ahead E) ++ (q.ahead E ++ if q.may E = true then Part.aheadRow E post else [])
  | [], _ => by rw [List.nil_append, Part.aheadRow]; rfl
  | x :: pre, h => by
    rw [List.cons_append, Part.aheadRow, if_pos (h x List.mem_cons_self), aheadRow_pre E q post pre (fun y hy => h y (List.mem_cons_of_mem _ hy)), List.flatMap_cons, List.append_assoc]
theorem aheadRow_all (E : Str → Bool) : ∀ ps : List Part, (∀ x ∈ ps, x.may E = true) → Part.aheadRow E ps = ps.flatMap (Part.ahead E)
  | [], _ => by rw [Part.aheadRow]; rfl
  | x :: ps, h => by
    rw [Part.aheadRow, if_pos (h x List.mem_cons_self), aheadRow_all E ps (fun y hy => h y (List.mem_cons_of_mem _ hy)), List.flatMap_cons]
theorem ahead_flat {E : Str → Bool} {p : Part} (h : ∀ s, p ≠ .rule s) (hr : isRow p = true → ∀ x ∈ p.subs, x.may E = true) : p.ahead E = p.subs.flatMap (Part.ahead E) := by
  cases p with
  | row ps => rw [Part.ahead, Part.subs]; exact aheadRow_all E ps (hr rfl)
  | or ps => rw [Part.ahead, Part.subs]; exact aheadOr_eq E ps
  | many p => simp [Part.ahead, Part.subs]
  | not p => simp [Part.ahead, Part.subs]
  | rule s => exact absurd rfl (h s)
  | _ => simp [Part.ahead, Part.subs]
theorem ahead_stop {E : Str → Bool} {p q : Part} {i : Nat} (hp : isRow p = true) (hq : p.subs[i]? = some q) (ha : ∀ x ∈ p.subs.take i, x.may E = true) (hn : q.may E = false) : p.ahead E = (p.subs.take i).flatMap (Part.ahead E) ++ q.ahead E := by
  cases p with
  | row ps =>
    rw [Part.ahead]
    rw [Part.subs] at hq ha ⊢
    obtain ⟨hi, hq'⟩ := List.getElem?_eq_some_iff.mp hq
    have e : ps = ps.take i ++ q :: ps.drop (i + 1) := by
      conv => lhs; rw [← List.take_append_drop i ps]
      rw [List.drop_eq_getElem_cons hi, hq']
    conv => lhs; rw [e]
    rw [aheadRow_pre E q _ _ ha, hn]
    simp
  | _ => cases hp
def pAsked (n : Nat) (F : Hp) (ds : List Dt) (m : Mm) (R : Rem → Prop) : Prop := ∃ (p : Part) (q : Addr) (kvs : List (Key × Dt)), ds = [p.dt, .ref q] ∧ DkAt F m q kvs ∧ p.deep ≤ n ∧ p.size ≤ 100000 ∧ R = fun r => r = .ok (.lst ((p.ahead (inK kvs)).map .str)) m
theorem flat_le {l : List Part} {f : Part → List Str} (h : ∀ x ∈ l, (f x).length ≤ x.size) : (l.flatMap f).length ≤ Part.sizes l := by
  induction l with
  | nil => exact Nat.zero_le _
  | cons x l ih =>
    rw [List.flatMap_cons, List.length_append, Part.sizes]
    have h1 := h x List.mem_cons_self
    have h2 := ih fun y hy => h y (List.mem_cons_of_mem _ hy)
    omega
theorem sizes_subs (p : Part) : Part.sizes p.subs ≤ p.size := by
  cases p <;> simp [Part.subs, Part.sizes, Part.size]
theorem sizes_take (l : List Part) (i : Nat) : Part.sizes (l.take i) ≤ Part.sizes l := by
  induction l generalizing i with
  | nil => simp
  | cons x l ih =>
    cases i with
    | zero => simp [Part.sizes]
    | succ i => rw [List.take_succ_cons, Part.sizes, Part.sizes]; have := ih i; omega
theorem ok_asked (T : Txt K mg) : ∀ n : Nat, Cal P w K mg base (L2N.CX P w) (n + 2) "asked_ahead" (spM (pAsked n)) := by
  intro n
  obtain ⟨f, fd, a⟩ := id T.d_asked_ahead
  have hW := ok_within (P := P) (w := w) (base := base) T
  suffices H : ∀ n : Nat, FnOk P w K mg base (L2N.CX P w) (n + 2) f fd P_asked_ahead (spM (pAsked n)) from a.cal (H n)
  intro n
  induction n with
  | zero =>
    refine fn_M a.fn sc_asked_ahead (fun F ds m R h => ?_) (fun X A B Bf hr F ds m R h => ?_)
    · obtain ⟨_, _, _, rfl, _⟩ := h; rfl
    obtain ⟨p, _, _, _, _, h, _⟩ := h
    have := Part.deep_pos p
    omega
  | succ n ih =>
    have hP : Cal P w K mg base (L2N.CX P w) (n + 2) "asked_ahead" (spM (pAsked n)) := a.cal ih
    have hM : Cal P w K mg base (L2N.CX P w) (n + 1) "may_be_empty" (spM (pMay n)) := ok_may T n
    refine fn_M a.fn sc_asked_ahead (fun F ds m R h => ?_) (fun X A B Bf hr F ds m R h => ?_)
    · obtain ⟨_, _, _, rfl, _⟩ := h; rfl
    obtain ⟨p, q, kvs, rfl, hd, hdp, hz, rfl⟩ := h
    by_cases hrule : ∃ s, p = .rule s
    · obtain ⟨s, rfl⟩ := hrule
      simp only [Part.dt, Part.ahead]
      exact s_ifT ((t_eq (d_ixT (d_v 0 rfl) d_int at0) d_str).to rfl) (s_ret (d_lst (a_one (d_ixT (d_v 0 rfl) d_int at1))) endM)
    have hnr : ∀ s, p ≠ .rule s := fun s e => hrule ⟨s, e⟩
    obtain ⟨k, t, e0, e1, e2⟩ := not_ruleR hnr
    refine s_no ((t_eq (d_ixT (EvD.to (d_v 0 rfl) e0) d_int at0) d_str).to e1) ?_
    refine s_asg 2 (d_lst a_nil) ?_
    refine s_for (I := fun i δ => δ = (⟨[some p.dt, some (.ref q), some (.lst (((p.subs.take i).flatMap (Part.ahead (inK kvs))).map .str)), none], m⟩ : Sl) ∧ (isRow p = true → ∀ x ∈ p.subs.take i, x.may (inK kvs) = true)) (i_lst (d_call hW (hr.mono (by omega)) (a_one (d_v 0 rfl)) (fun F1 _ => ⟨p, rfl, rfl⟩))) ⟨rfl, fun _ x hx => by simp at hx⟩ ?_ ?_
    · rintro i d δi ⟨rfl, ha⟩ hi
      rw [List.getElem?_map] at hi
      obtain ⟨x, hq, rfl⟩ := Option.map_eq_some_iff.mp hi
      have hm : x ∈ p.subs := List.mem_of_getElem? hq
      have h1 := Part.deep_subs hm
      have h2 := size_subs hm
      have tk : p.subs.take (i + 1) = p.subs.take i ++ [x] := by rw [List.take_succ, hq]; rfl
      have hz2 : ((p.subs.take i).flatMap (Part.ahead (inK kvs))).length + (x.ahead (inK kvs)).length ≤ 100000 := by
        have h3 := flat_le (l := p.subs.take (i + 1)) (f := Part.ahead (inK kvs)) (fun x _ => Part.ahead_le _ x)
        rw [tk, List.flatMap_append, List.length_append, List.flatMap_cons, List.flatMap_nil, List.append_nil] at h3
        have h4 := sizes_take p.subs (i + 1)
        rw [tk] at h4
        have h5 := sizes_subs p
        omega
      refine ⟨_, g_n 3, s_asg 2 ((d_cat (d_v 2 rfl) ((m_call hP hr (a_cons (d_v 3 rfl) (a_one (d_v 1 rfl))) (fun F1 h1' => ⟨x, q, kvs, rfl, hd.know h1', by omega, by omega, rfl⟩)).ev (fun r h => h)) (by rw [List.length_map, List.length_map]; exact sz5 hz2)).to (d' := .lst (((p.subs.take (i + 1)).flatMap (Part.ahead (inK kvs))).map .str)) (by rw [tk, List.flatMap_append, List.map_append]; simp)) ?_⟩
      refine s_when (t_w (w_and ((t_eq (d_ixT (EvD.to (d_v 0 rfl) e0) d_int at0) d_str).to e2) (fun _ => w_and1 (t_not (t_val ((m_call hM (hr.mono (by omega)) (a_cons (d_v 3 rfl) (a_one (d_v 1 rfl))) (fun F1 h1' => ⟨x, q, kvs, rfl, hd.know h1', by omega, by omega, rfl⟩)).ev (fun r h => h))))))) (fun h3 => ?_) (fun h3 => ?_)
      · rw [Bool.and_eq_true, Bool.not_eq_true'] at h3
        refine s_ret (d_v 2 rfl) ?_
        have : p.ahead (inK kvs) = (p.subs.take (i + 1)).flatMap (Part.ahead (inK kvs)) := by
          rw [ahead_stop h3.1 hq (ha h3.1) h3.2, tk, List.flatMap_append]
          simp
        rw [this]
        exact endM
      · refine s_nil ⟨_, .cons (.cons (.cons (.consN .nil))), rfl, fun hp y hy => ?_⟩
        rw [tk, List.mem_append, List.mem_singleton] at hy
        rcases hy with hy | rfl
        · exact ha hp y hy
        · rw [hp] at h3
          simpa using h3
    · rintro δn ⟨rfl, ha⟩
      refine s_ret (d_v 2 rfl) ?_
      rw [List.length_map, List.take_length] at ha ⊢
      rw [ahead_flat hnr ha]
      exact endM
/-! empty_rules -/
theorem DkAt.cons {F : Hp} {m : Mm} {q : Addr} {kvs : List (Key × Dt)} {x : Addr × Md} (h : DkAt F m q kvs) : DkAt F (x :: m) q kvs := by
  cases h with
  | «at» j hj => exact .at (j + 1) hj
  | lck j hj hr => exact .lck (j + 1) hj hr
theorem d_neg {X : Cx} {F : Hp} {δ : Sl} {e : Expr} {pos : Pos} {i : Int} (h : EvD X F e δ (.int i)) : EvD X F (.UnaryOp .USub e pos) δ (.int (-i)) := fun F1 H σ Q s c k =>
  we (pe_un un_neg pe) (h F1 H σ _ s c fun v F2 H2 e2 r2 => ⟨i, by cases r2; rfl, k _ F2 H2 e2 (.int _)⟩)
theorem stepE_pos {E : List Str} {r : Str × Part} (h : r.2.may (memB E) = true) : stepE E r = addE E r.1 := if_pos h
theorem stepE_neg {E : List Str} {r : Str × Part} (h : r.2.may (memB E) = false) : stepE E r = E := if_neg (by rw [h]; exact Bool.false_ne_true)
theorem inK_ek (E : List Str) : inK (ek E) = memB E := funext (valD_ek E)
structure GoodR (rules : Rules) : Prop where
  nd : (rules.map (·.1)).Nodup
  deep : ∀ r ∈ rules, r.2.deep ≤ 12
  size : ∀ r ∈ rules, r.2.size ≤ 100000
  len : rules.length ≤ 100
def pEmpty (F : Hp) (ds : List Dt) (m : Mm) (R : Rem → Prop) : Prop := ∃ (q : Addr) (rules : Rules), ds = [.ref q] ∧ DkAt F m q (pk rules) ∧ GoodR rules ∧ R = fun r => ∃ q' E, q' ∉ m.ads ∧ IsEmp rules E ∧ r = .ok (.ref q') ((q', .dK (ek E)) :: m)
theorem ok_empty (T : Txt K mg) : Cal P w K mg base (L2N.CX P w) 14 "empty_rules" (spM pEmpty) := by
  obtain ⟨f, fd, a⟩ := id T.d_empty_rules
  have hM : Cal P w K mg base (L2N.CX P w) 13 "may_be_empty" (spM (pMay 12)) := ok_may T 12
  refine a.cal (fn_M a.fn sc_empty_rules (fun F ds m R h => ?_) (fun X A B Bf hr F ds m R h => ?_))
  · obtain ⟨_, _, rfl, _⟩ := h; rfl
  obtain ⟨q, rules, rfl, hd, hg, rfl⟩ := h
  refine s_asgM 1 m_dictK (fun d m' h => ?_) (fun C m' h => ?_)
  case refine_2 => obtain ⟨_, _, h⟩ := h; cases h
  obtain ⟨q', hq', h⟩ := h
  cases h
  refine s_asg 2 (d_neg d_int) ?_
  have sub0 : ∀ s ∈ ([] : List Str), s ∈ rules.map (·.1) := fun s h => nomatch h
  refine s_while (I := fun k δ => ∃ (E : List Str) (b : Int), δ = (⟨[some (.ref q), some (.ref q'), some (.int b), none], (q', .dK (ek E)) :: m⟩ : Sl) ∧ E.Nodup ∧ (∀ s ∈ E, s ∈ rules.map (·.1)) ∧ Least rules E ∧ b ≤ E.length ∧ (b = E.length → Closed rules E) ∧ k = 2 * (rules.length - E.length) + (if b < E.length then 1 else 0)) ⟨_, [], -1, rfl, List.nodup_nil, sub0, fun _ _ s h => (nomatch h), by simp, fun h => by simp at h, rfl⟩ ?_
  rintro k δi ⟨E, b, rfl, hn, hs, hl, hb, hc, rfl⟩
  refine ⟨decide (b < E.length), t_lt (d_v 2 rfl) ((d_lenDK 0 T.b_len (d_v 1 rfl) rfl).to (by unfold ek; rw [List.length_map])), fun ht => ?_, fun ht => ?_⟩
  · have ht' : b < E.length := of_decide_eq_true ht
    refine s_asg 2 ((d_lenDK 0 T.b_len (d_v 1 rfl) rfl).to (d' := .int (E.length : Nat)) (by unfold ek; rw [List.length_map])) ?_
    refine s_for (ds := (rules.map (·.1)).map .str) (I := fun i δ => δ = (⟨[some (.ref q), some (.ref q'), some (.int (E.length : Nat)), none], (q', .dK (ek ((rules.take i).foldl stepE E))) :: m⟩ : Sl)) (i_lst ((m_listD T.b_list (d_v 0 rfl) (DkAt.cons hd)).newL.to (by rw [keys_pk]))) rfl ?_ ?_
    · rintro i d δi rfl hi
      rw [List.getElem?_map, List.getElem?_map] at hi
      obtain ⟨s, hi2, rfl⟩ := Option.map_eq_some_iff.mp hi
      obtain ⟨r, hr1, rfl⟩ := Option.map_eq_some_iff.mp hi2
      have hrm : r ∈ rules := List.mem_of_getElem? hr1
      have tk : (rules.take (i + 1)).foldl stepE E = stepE ((rules.take i).foldl stepE E) r := by
        rw [List.take_succ, hr1, List.foldl_append]; rfl
      refine ⟨_, g_n 3, ?_⟩
      refine s_when (t_val ((m_call hM hr (a_cons (d_getD (.inr r.1) hr (d_v 0 rfl) (d_v 3 rfl) (DkAt.cons hd) (valD_pk hg.nd hrm)) (a_one (d_v 1 rfl))) (fun F1 h1 => ⟨r.2, q', _, rfl, .at 0 rfl, hg.deep r hrm, hg.size r hrm, rfl⟩)).ev (fun r h => h))) (fun h1 => ?_) (fun h1 => ?_)
      · rw [inK_ek] at h1
        have hlen : (ek ((rules.take i).foldl stepE E)).length < sizeLine := by
          unfold ek
          rw [List.length_map]
          have := nodup_le ((rules.take i).foldl stepE E) (rules.map (·.1)) (pass_nd _ _ hn) (pass_names _ _ (fun r hr => List.mem_of_mem_take hr) hs)
          rw [List.length_map] at this
          have := hg.len
          exact Nat.lt_of_le_of_lt (by omega : _ ≤ 100) (by decide)
        refine s_putD 0 (.inr r.1) hr rfl d_bl (d_v 1 rfl) (d_v 3 rfl) hlen (s_nil (s_nil ?_))
        refine ⟨_, .cons (.cons (.cons (.consN .nil))), ?_⟩
        rw [tk, putD_ek, stepE_pos h1]
        rfl
      · rw [inK_ek] at h1
        refine s_nil ⟨_, .cons (.cons (.cons (.consN .nil))), ?_⟩
        rw [tk, stepE_neg h1]
    · rintro δn rfl
      rw [List.length_map, List.length_map, List.take_length]
      have h1 := pass_len rules E
      have h2 := nodup_le (rules.foldl stepE E) (rules.map (·.1)) (pass_nd _ _ hn) (pass_names _ _ (fun r hr => hr) hs)
      rw [List.length_map] at h2
      refine s_nil ⟨_, .refl _, _, ?_, rules.foldl stepE E, _, rfl, pass_nd _ _ hn, pass_names _ _ (fun r hr => hr) hs, pass_least _ _ (fun r hr => hr) hl, by omega, fun h => ?_, rfl⟩
      · rw [if_pos ht']
        split <;> omega
      · obtain ⟨h3, h4⟩ := pass_same rules E (by omega)
        rw [h3]
        exact h4
  · have ht' : ¬ b < E.length := of_decide_eq_false ht
    exact s_ret (d_v 1 rfl) ⟨_, SubP.refl _, q', E, hq', ⟨hc (by omega), hl, hn, hs⟩, rfl⟩
end
end Law

set_option Elab.async false
set_option linter.all false
set_option maxRecDepth 100000
set_option maxHeartbeats 4000000
namespace Law
open PySem PySem.Spec PyProof.Rows L2 G
section
variable {P : Program} {w : World} {K : PySem.W.Frag} {mg : Str → Option Value} {base : Heap}
/-! comes_back -/
def pBack (F : Hp) (ds : List Dt) (m : Mm) (R : Rem → Prop) : Prop := ∃ (q : Addr) (A : Aheads) (r : Str × List Str), ds = [.ref q, .str r.1] ∧ DkAt F m q (ak A) ∧ GoodA A ∧ r ∈ A ∧ R = fun z => ∃ b : Bool, (b = true ↔ Reach A r.1 r.1) ∧ z = .ok (.bl b) m
theorem ok_back (T : Txt K mg) : Cal P w K mg base (L2N.CX P w) 1 "comes_back" (spM pBack) := by
  obtain ⟨f, fd, a⟩ := id T.d_comes_back
  refine a.cal (fn_M a.fn sc_comes_back (fun F ds m R h => ?_) (fun X A B Bf hr F ds m R h => ?_))
  · obtain ⟨_, _, _, rfl, _⟩ := h; rfl
  obtain ⟨q, A, r, rfl, hd, hg, hrA, rfl⟩ := h
  refine s_asgM 2 (m_list T.b_list (d_getD (.inr r.1) hr (d_v 0 rfl) (d_v 1 rfl) hd (valD_ak hg.nd hrA)) (.inr rfl)) (fun d m' h => ?_) (fun C m' h => ?_)
  case refine_2 => obtain ⟨_, _, h⟩ := h; cases h
  obtain ⟨qw, hqw, h⟩ := h
  cases h
  refine s_asgM 3 m_dictK (fun d m' h => ?_) (fun C m' h => ?_)
  case refine_2 => obtain ⟨_, _, h⟩ := h; cases h
  obtain ⟨qs, hqs, h⟩ := h
  cases h
  refine s_while (I := fun k δ => ∃ (W S : List Str) (qw : Addr), δ = (⟨[some (.ref q), some (.str r.1), some (.ref qw), some (.ref qs), none], (qs, .dK (ek S)) :: (qw, .lst (W.map .str)) :: m⟩ : Sl) ∧ RingI A r.1 W S ∧ W.length ≤ (S.length + 1) * 100000 ∧ k = (A.length - S.length) * 200000 + W.length) ⟨_, r.2, [], qw, rfl, RingI.start hg hrA, by have := hg.siz r hrA; simpa using this, rfl⟩ ?_
  rintro k δi ⟨W, S, qw, rfl, hI, hW, rfl⟩
  have hS : S.length ≤ A.length := by
    have := nodup_le S (A.map (·.1)) hI.nd hI.sb
    rwa [List.length_map] at this
  have hn := hg.len
  refine ⟨decide (0 < ((W.length : Nat) : Int)), t_gt ((d_lenC 1 T.b_len (d_v 2 rfl) rfl).to (by rw [List.length_map])) d_int, fun ht => ?_, fun ht => ?_⟩
  · have ht' : (0 : Int) < (W.length : Nat) := of_decide_eq_true ht
    obtain ⟨W0, x, rfl⟩ : ∃ W0 x, W = W0 ++ [x] := by
      rcases List.eq_nil_or_concat W with rfl | ⟨W0, x, h⟩
      · simp at ht'
      · exact ⟨W0, x, by rw [h]; simp⟩
    refine s_asgM 4 (m_pop (ds := W0.map .str) (d := .str x) 1 (by show some _ = some _; rw [List.map_append]; rfl) (d_v 2 rfl)) (fun d m' h => ?_) (fun C m' h => nomatch h)
    cases h
    have hxA : x ∈ A.map (·.1) := hI.w2 x (by simp)
    obtain ⟨rx, hrx, rfl⟩ := List.mem_map.mp hxA
    have hlW : (W0 ++ [rx.1]).length = W0.length + 1 := by simp
    refine s_when (t_eq (d_v 4 rfl) (d_v 1 rfl)) (fun h1 => ?_) (fun h1 => ?_)
    · refine s_ret d_bl ⟨m, (SubP.refl m).drop.drop, true, ⟨fun _ => ?_, fun _ => rfl⟩, rfl⟩
      have h2 := hI.w1 rx.1 (by simp)
      have h3 := eqS_true h1
      rw [h3] at h2
      exact h2
    have hne := eqS_false h1
    refine s_when (t_notInD (.inr rx.1) hr (d_v 4 rfl) (d_v 3 rfl) (.at 0 rfl)) (fun h2 => ?_) (fun h2 => ?_)
    · rw [valD_ek, Bool.not_eq_true'] at h2
      have hxS : rx.1 ∉ S := of_decide_eq_false h2
      refine s_putD 0 (.inr rx.1) hr rfl d_bl (d_v 3 rfl) (d_v 4 rfl) (by unfold ek; rw [List.length_map]; exact Nat.lt_of_le_of_lt (by omega : _ ≤ 100) (by decide)) ?_
      have hlr := hg.siz rx hrx
      have hS1 : S.length + 1 ≤ A.length := by
        have := nodup_le (S ++ [rx.1]) (A.map (·.1)) (hI.push hg hne hxS hrx).nd (hI.push hg hne hxS hrx).sb
        simpa using this
      have hz : W0.length + rx.2.length ≤ 16777216 := by
        have : (S.length + 1) * 100000 ≤ 101 * 100000 := Nat.mul_le_mul_right _ (by omega)
        omega
      refine s_asgM 2 (m_catC 1 (d_v 2 rfl) rfl (d_getD (.inr rx.1) hr (d_v 0 rfl) (d_v 4 rfl) (DkAt.cons (DkAt.cons hd)) (valD_ak hg.nd hrx)) (by rw [List.length_map, List.length_map]; exact hz)) (fun d m' h => ?_) (fun C m' h => ?_)
      case refine_2 => obtain ⟨_, _, h⟩ := h; cases h
      obtain ⟨qw', hqw', h⟩ := h
      cases h
      refine s_nil (s_nil ⟨⟨[some (.ref q), some (.str r.1), some (.ref qw'), some (.ref qs), none], (qs, .dK (ek (S ++ [rx.1]))) :: (qw', .lst ((W0 ++ rx.2).map .str)) :: m⟩, ?_, _, ?_, W0 ++ rx.2, S ++ [rx.1], qw', rfl, hI.push hg hne hxS hrx, ?_, rfl⟩)
      · have e1 : putD (ek S) (.inr rx.1) (.bl true) = ek (S ++ [rx.1]) := by rw [putD_ek]; unfold addE; rw [if_neg hxS]
        have e2 : (W0 ++ rx.2).map Dt.str = W0.map .str ++ rx.2.map .str := List.map_append
        rw [e2]
        show Wk ⟨_, (qw', _) :: (qs, .dK (putD (ek S) (.inr rx.1) (.bl true))) :: (qw, _) :: m⟩ _
        rw [e1]
        exact .cons (.cons (.cons (.cons (.consN (.mem ((SubP.refl m).drop.swap))))))
      · simp only [List.length_append, List.length_singleton]
        have : A.length - S.length = (A.length - (S.length + 1)) + 1 := by omega
        rw [this, Nat.add_mul]
        omega
      · simp only [List.length_append, List.length_singleton]
        rw [hlW] at hW
        rw [Nat.add_mul (S.length + 1) 1]
        omega
    · rw [valD_ek, Bool.not_eq_false'] at h2
      have hxS : rx.1 ∈ S := of_decide_eq_true h2
      refine s_nil ⟨_, .cons (.cons (.cons (.cons (.consN .nil)))), _, ?_, W0, S, qw, rfl, hI.skip hxS, by omega, rfl⟩
      rw [hlW]
      omega
  · have ht' : ¬ (0 : Int) < (W.length : Nat) := of_decide_eq_false ht
    have : W = [] := List.eq_nil_of_length_eq_zero (by omega)
    subst this
    exact s_ret d_bl ⟨m, (SubP.refl m).drop.drop, false, ⟨fun h => (nomatch h), fun h => absurd h hI.stop⟩, rfl⟩
end
end Law

set_option Elab.async false
set_option linter.all false
set_option maxRecDepth 100000
set_option maxHeartbeats 4000000
/-! class Grammar: need, names, part, empties. -/
namespace Law
open PySem PySem.Spec PyProof.Rows L2 G
section
variable {P : Program} {w : World} {K : PySem.W.Frag} {mg : Str → Option Value} {base : Heap}
abbrev gG (K : PySem.W.Frag) : Addr := He.ga K "Grammar"
/-- the grammar's object, from when its rules are in -/
structure PaAt (K : PySem.W.Frag) (F : Hp) (m : Mm) (g : Addr) (rules : Rules) : Prop where
  ex : ∃ (j : Nat) (qp : Addr) (t : List (Str × Dt)), m[j]? = some (g, .ins (gG K) (("parts", .ref qp) :: t)) ∧ (t = [] ∨ ∃ qe : Addr, t = [(("empty" : Str), Dt.ref qe)]) ∧ DkAt F m qp (pk rules)
/-- .. whole -/
structure GrAt (K : PySem.W.Frag) (m : Mm) (g : Addr) (rules : Rules) (E : List Str) : Prop where
  ex : ∃ (j jp je : Nat) (qp qe : Addr), m[j]? = some (g, .ins (gG K) [("parts", .ref qp), ("empty", .ref qe)]) ∧ m[jp]? = some (qp, .dK (pk rules)) ∧ m[je]? = some (qe, .dK (ek E)) ∧ jp ≠ je
theorem GrAt.pa {F : Hp} {m : Mm} {g : Addr} {rules : Rules} {E : List Str} (h : GrAt K m g rules E) : PaAt K F m g rules := by
  obtain ⟨j, jp, je, qp, qe, h1, h2, h3, _⟩ := h.ex
  exact ⟨j, qp, _, h1, .inr ⟨qe, rfl⟩, .at jp h2⟩
theorem PaAt.know {F F1 : Hp} {m : Mm} {g : Addr} {rules : Rules} (h : PaAt K F m g rules) (s : Same F F1) : PaAt K F1 m g rules := by
  obtain ⟨j, qp, t, h1, h2, h3⟩ := h.ex
  exact ⟨j, qp, t, h1, h2, h3.know s⟩
theorem GrAt.cons {m : Mm} {g : Addr} {rules : Rules} {E : List Str} {x : Addr × Md} (h : GrAt K m g rules E) : GrAt K (x :: m) g rules E := by
  obtain ⟨j, jp, je, qp, qe, h1, h2, h3, h4⟩ := h.ex
  exact ⟨j + 1, jp + 1, je + 1, qp, qe, h1, h2, h3, fun e => h4 (Nat.succ.inj e)⟩
theorem set_back {m : Mm} {j : Nat} {x y : Addr × Md} (h : m[j]? = some y) : (m.set j x).set j y = m := by
  rw [List.set_set]
  refine List.ext_getElem? fun i => ?_
  by_cases e : j = i
  · subst e
    rw [List.getElem?_set_self (List.getElem?_eq_some_iff.mp h).1, h]
  · rw [List.getElem?_set_ne e]
theorem set_at {m : Mm} {j : Nat} {x y : Addr × Md} (h : m[j]? = some y) : (m.set j x)[j]? = some x := List.getElem?_set_self (List.getElem?_eq_some_iff.mp h).1
theorem keys_pk' (rules : Rules) : ((pk rules).map fun kv => kD kv.1) = rules.map fun r => .str r.1 := by
  unfold pk
  rw [List.map_map]
  rfl
theorem keys_fst {xs : List (Key × V)} {kvs : List (Key × Dt)} {F : Hp} (r : RepK F xs kvs) : xs.map (·.1) = kvs.map (·.1) := r.keys
theorem PaAt.cons {F : Hp} {m : Mm} {g : Addr} {rules : Rules} {x : Addr × Md} (h : PaAt K F m g rules) : PaAt K F (x :: m) g rules := by
  obtain ⟨j, qp, t, h1, h2, h3⟩ := h.ex
  exact ⟨j + 1, qp, t, h1, h2, DkAt.cons h3⟩
theorem look_parts {qp : Addr} {t : List (Str × Dt)} : List.lookup ("parts" : Str) (("parts", Dt.ref qp) :: t) = some (.ref qp) := rfl
theorem look_need {qp : Addr} {t : List (Str × Dt)} (h : t = [] ∨ ∃ qe : Addr, t = [(("empty" : Str), Dt.ref qe)]) : List.lookup ("need" : Str) (("parts", Dt.ref qp) :: t) = none := by
  rcases h with rfl | ⟨qe, rfl⟩ <;> rfl
/-! need -/
def pNeed (K : PySem.W.Frag) (F : Hp) (ds : List Dt) (m : Mm) (R : Rem → Prop) : Prop := ∃ (g : Addr) (rules : Rules) (s : Str), ds = [.ref g, .str s] ∧ PaAt K F m g rules ∧ (rules.map (·.1)).Nodup ∧
  R = fun r => (s ∈ rules.map (·.1) ∧ r = .ok .non m) ∨ (s ∉ rules.map (·.1) ∧ r = .err (He.ga K "NoRule") m)
theorem ok_need (T : Txt K mg) : CalM P w K mg base (L2N.CX P w) 1 "Grammar" "need" (spM (pNeed K)) := by
  obtain ⟨fd, a⟩ := T.m_Grammar_need
  refine a.cal (fn_M a.fn sc_Grammar_need (fun F ds m R h => ?_) (fun X A B Bf hr F ds m R h => ?_))
  · obtain ⟨_, _, _, rfl, _⟩ := h; rfl
  obtain ⟨g, rules, s, rfl, hp, hn, rfl⟩ := h
  obtain ⟨j, qp, t, h1, h2, h3⟩ := hp.ex
  refine s_when (t_notInD (.inr s) hr (d_v 1 rfl) (d_fld j (d_v 0 rfl) h1 look_parts T.c_Grammar T.n_Grammar_parts) h3) (fun h4 => ?_) (fun h4 => ?_)
  · rw [isSome_pk hn, Bool.not_eq_true'] at h4
    exact s_raise T.e_NoRule ⟨m, .refl m, .inr ⟨of_decide_eq_false h4, rfl⟩⟩
  · rw [isSome_pk hn, Bool.not_eq_false'] at h4
    exact s_nil ⟨m, .refl m, .inl ⟨of_decide_eq_true h4, rfl⟩⟩
/-! names -/
def pNames (K : PySem.W.Frag) (F : Hp) (ds : List Dt) (m : Mm) (R : Rem → Prop) : Prop := ∃ (g : Addr) (rules : Rules), ds = [.ref g] ∧ PaAt K F m g rules ∧ R = NewL m ((rules.map (·.1)).map .str)
theorem ok_names (T : Txt K mg) : CalM P w K mg base (L2N.CX P w) 1 "Grammar" "names" (spM (pNames K)) := by
  obtain ⟨fd, a⟩ := T.m_Grammar_names
  refine a.cal (fn_M a.fn sc_Grammar_names (fun F ds m R h => ?_) (fun X A B Bf hr F ds m R h => ?_))
  · obtain ⟨_, _, rfl, _⟩ := h; rfl
  obtain ⟨g, rules, rfl, hp, rfl⟩ := h
  obtain ⟨j, qp, t, h1, h2, h3⟩ := hp.ex
  refine s_retM (m_listD T.b_list (d_fld j (d_v 0 rfl) h1 look_parts T.c_Grammar T.n_Grammar_parts) h3) (fun d m' h => ?_) (fun C m' h => ?_)
  · rw [keys_pk] at h
    exact ⟨_, .refl _, h⟩
  · obtain ⟨_, _, h⟩ := h; cases h
/-! part -/
def pPart (K : PySem.W.Frag) (F : Hp) (ds : List Dt) (m : Mm) (R : Rem → Prop) : Prop := ∃ (g : Addr) (rules : Rules) (s : Str), ds = [.ref g, .str s] ∧ PaAt K F m g rules ∧ (rules.map (·.1)).Nodup ∧
  R = fun r => (∃ x ∈ rules, x.1 = s ∧ r = .ok x.2.dt m) ∨ (s ∉ rules.map (·.1) ∧ r = .err (He.ga K "NoRule") m)
theorem ok_part (T : Txt K mg) : CalM P w K mg base (L2N.CX P w) 2 "Grammar" "part" (spM (pPart K)) := by
  obtain ⟨fd, a⟩ := T.m_Grammar_part
  refine a.cal (fn_M a.fn sc_Grammar_part (fun F ds m R h => ?_) (fun X A B Bf hr F ds m R h => ?_))
  · obtain ⟨_, _, _, rfl, _⟩ := h; rfl
  obtain ⟨g, rules, s, rfl, hp, hn, rfl⟩ := h
  obtain ⟨j, qp, t, h1, h2, h3⟩ := hp.ex
  refine s_expM (m_meth j (ok_need T) T.c_Grammar hr (d_v 0 rfl) h1 (look_need h2) (a_one (d_v 1 rfl)) (fun F1 hF => ⟨g, rules, s, rfl, hp.know hF, hn, rfl⟩)) (fun d m' h => ?_) (fun C m' h => ?_)
  · rcases h with ⟨hs, h⟩ | ⟨_, h⟩
    · cases h
      obtain ⟨x, hx, rfl⟩ := List.mem_map.mp hs
      exact s_ret (d_getD (.inr x.1) hr (d_fld j (d_v 0 rfl) h1 look_parts T.c_Grammar T.n_Grammar_parts) (d_v 1 rfl) h3 (valD_pk hn hx)) ⟨m, .refl m, .inl ⟨x, hx, rfl, rfl⟩⟩
    · cases h
  · rcases h with ⟨hs, h⟩ | ⟨hs, h⟩
    · cases h
    · cases h
      exact ⟨m, .refl m, .inr ⟨hs, rfl⟩⟩
end
end Law

set_option Elab.async false
set_option linter.all false
set_option maxRecDepth 100000
set_option maxHeartbeats 4000000
/-! Grammar.__init__. -/
namespace Law
open PySem PySem.Spec PyProof.Rows L2 G
section
variable {P : Program} {w : World} {K : PySem.W.Frag} {mg : Str → Option Value} {base : Heap}
/-- a list that was handed in, known or one that may change -/
inductive ListArg (m : Mm) : Dt → List Dt → Prop
  | known {ds : List Dt} : ListArg m (.lst ds) ds
  | cell {ds : List Dt} {q : Addr} (j : Nat) (hj : m[j]? = some (q, .lst ds)) : ListArg m (.ref q) ds
theorem d_lenA {X : Cx} {F : Hp} {δ : Sl} {e : Expr} {p pos : Pos} {x : Dt} {ds : List Dt} {Γ : Gm} {N : List Str} {sc : Scope} [B : Bd X Γ N sc] (hm : Γ.mg "len" = none) (h : EvD X F e δ x) (ha : ListArg δ.m x ds) (hg : glB sc "len" = true := by decide +kernel) (he : starEach [e] X.env = (false, eval e X.env) :: starEach [] X.env := by first | exact plSt | rfl) :
    EvD X F (.Call (.Name "len" p) [e] [] pos) δ (.int (ds.length : Nat)) := by
  cases ha with
  | known => exact d_lenL hm h hg he
  | cell j hj => exact d_lenC j hm h hj hg he
/-- what making a grammar comes to -/
def InitOut (K : PySem.W.Frag) (g : Addr) (m0 : Mm) (l : List (Dt × Dt)) : Rem → Prop := fun r =>
  ((¬ (1 ≤ l.length ∧ l.length ≤ 40 ∧ ∃ rules, Valid l rules)) ∧ r = .err (He.ga K "NoGrammar") m0) ∨
  ∃ rules, Valid l rules ∧ 1 ≤ l.length ∧ l.length ≤ 40 ∧ ((¬ Known rules ∧ r = .err (He.ga K "NoRule") m0) ∨
    (Known rules ∧ ∃ E, IsEmp rules E ∧ ((Rings rules E ∧ r = .err (He.ga K "Circling") m0) ∨
      (¬ Rings rules E ∧ ∃ qp qe, r = .ok .non ((qe, .dK (ek E)) :: (qp, .dK (pk rules)) :: (g, .ins (gG K) [("parts", .ref qp), ("empty", .ref qe)]) :: m0)))))
def pInit (K : PySem.W.Frag) (_ : Hp) (ds : List Dt) (m : Mm) (R : Rem → Prop) : Prop := ∃ (g : Addr) (m0 : Mm) (arg : Dt) (l : List (Dt × Dt)), ds = [.ref g, arg] ∧ m = (g, .ins (gG K) []) :: m0 ∧ ListArg m0 arg (l.map fun x => .tup [x.1, x.2]) ∧
  (∀ x ∈ l, okD x.1 = true ∧ okD x.2 = true ∧ ∀ p : Part, x.2 = p.dt → p.size ≤ 100000) ∧ R = InitOut K g m0 l
theorem EndM.drop {R : Rem → Prop} {C : Addr} {m m' : Mm} (h : R (.err C m')) (s : SubP m' m) : EndM R (.err C m) := ⟨m', s, h⟩
/-- the loop over the rules -/
abbrev s_load : Stmt := (defBody s_Grammar_init).getD 2 (.Pass ⟨0, 0, 0, 0⟩)
theorem init_load {X : Cx} {A : Around} [B : Bd X ⟨P, w, K, mg, base, A⟩ N_Grammar_init (defScope s_Grammar_init)] [Bf X] (T : Txt K mg) (hr : Room 15 A) {F : Hp} {g qp : Addr} {M : Mm} {arg : Dt} {l : List (Dt × Dt)} {O : Out → Prop} {L : List (Addr × HO)}
    (hok : ∀ x ∈ l, okD x.1 = true ∧ okD x.2 = true ∧ ∀ p : Part, x.2 = p.dt → p.size ≤ 100000) (hl : l.length ≤ 40)
    (hI : ∀ {tg : Expr} {pos : Pos}, IterD X F L tg (.Name "rules" pos) ⟨[some (.ref g), some arg, none, none, none, none], (qp, .dK []) :: (g, .ins (gG K) [("parts", .ref qp)]) :: M⟩ (l.map fun x => .tup [x.1, x.2])) (hL : ∀ p ∈ L, (p.1, Md.lck p.2) ∈ M)
    (h1 : ∀ acc, Valid l acc → O (.nx ⟨[some (.ref g), some arg, none, none, none, none], (qp, .dK (pk acc)) :: (g, .ins (gG K) [("parts", .ref qp)]) :: M⟩))
    (h2 : (¬ ∃ rules, Valid l rules) → ∀ acc, O (.err (He.ga K "NoGrammar") ((qp, .dK (pk acc)) :: (g, .ins (gG K) [("parts", .ref qp)]) :: M))) :
    S1 X F s_load ⟨[some (.ref g), some arg, none, none, none, none], (qp, .dK []) :: (g, .ins (gG K) [("parts", .ref qp)]) :: M⟩ O := by
  have hN := ok_is_name (P := P) (w := w) (base := base) T
  have hP := ok_is_part (P := P) (w := w) (base := base) T 12
  obtain ⟨td, hdd⟩ := T.v_MOST_DEEP
  refine for1 hI (I := fun i δ => ∃ acc, Valid (l.take i) acc ∧ δ = (⟨[some (.ref g), some arg, none, none, none, none], (qp, .dK (pk acc)) :: (g, .ins (gG K) [("parts", .ref qp)]) :: M⟩ : Sl)) ⟨[], ⟨rfl, List.nodup_nil, (fun _ h => nomatch h), (fun _ h => nomatch h)⟩, rfl⟩ ?_ ?_ ?_
  · rintro i d δi ⟨acc, hv, rfl⟩ hi
    rw [List.getElem?_map] at hi
    obtain ⟨x, hx, rfl⟩ := Option.map_eq_some_iff.mp hi
    have hxm : x ∈ l := List.mem_of_getElem? hx
    obtain ⟨o1, o2, o3⟩ := hok x hxm
    have tk : l.take (i + 1) = l.take i ++ [x] := by rw [List.take_succ, hx]; rfl
    refine ⟨_, g_tup2 (g_n 2) (g_n 3), ?_⟩
    cases hnm : isNameD x.1 with
    | false =>
      refine s_ifT (t_w ((w_or (t_not (t_val (d_call hN (hr.mono (by decide)) (a_one (d_v 2 rfl)) (fun F1 _ => ⟨x.1, rfl, rfl, o1⟩)))) (fun h => by rw [hnm] at h; cases h) (q := true)).to (by rw [hnm]; rfl))) (s_raise T.e_NoGrammar ?_)
      refine h2 (fun ⟨rules, hR⟩ => ?_) acc
      obtain ⟨s, p, rfl, _, h3, _⟩ := hR.at hv hx
      rw [h3] at hnm
      cases hnm
    | true =>
      obtain ⟨s, hs⟩ := isName_inv hnm
      obtain ⟨x1, x2⟩ := x
      cases hs
      refine s_when (k := decide (s ∈ acc.map (·.1)) || !isPartD 12 x2) (t_w ((w_or (t_not (t_val (d_call hN (hr.mono (by decide)) (a_one (d_v 2 rfl)) (fun F1 _ => ⟨.str s, rfl, rfl, o1⟩)))) (fun _ => w_or (t_inD (.inr s) hr (d_v 2 rfl) (d_fld 1 (d_v 0 rfl) rfl look_parts T.c_Grammar T.n_Grammar_parts) (.at 0 rfl)) (fun _ => w_or1 (t_not (t_val (d_call hP hr (a_cons (d_v 3 rfl) (a_one (d_gint hdd))) (fun F1 _ => ⟨x2, rfl, rfl, o2⟩))))))).to (by rw [hnm, isSome_pk hv.nd]; rfl))) (fun h3 => ?_) (fun h3 => ?_)
      · refine s_raise T.e_NoGrammar ?_
        refine h2 (fun ⟨rules, hR⟩ => ?_) acc
        obtain ⟨s', p, he, h4, h5, h6, h7⟩ := hR.at hv hx
        cases he
        rw [decide_eq_false h4, Part.isPart_dt 12 p h6 h7] at h3
        cases h3
      · rw [Bool.or_eq_false_iff, Bool.not_eq_false'] at h3
        obtain ⟨p, rfl, hg, hd⟩ := isPart_inv 12 x2 h3.2
        have hs := of_decide_eq_false h3.1
        refine s_putD 0 (.inr s) hr rfl (d_v 3 rfl) (d_fld 1 (d_v 0 rfl) rfl look_parts T.c_Grammar T.n_Grammar_parts) (d_v 2 rfl) ?_ (s_nil ?_)
        · have := hv.len
          unfold pk
          rw [List.length_map, ← this, List.length_take]
          exact Nat.lt_of_le_of_lt (by omega : _ ≤ 100) (by decide)
        · refine ⟨_, .cons (.cons (.consN (.consN (.cons (.cons .nil))))), acc ++ [(s, p)], by rw [tk]; exact hv.snoc hs hnm hg hd, ?_⟩
          rw [← putD_pk hs]
          rfl
  · rintro δn ⟨acc, hv, rfl⟩
    rw [List.length_map, List.take_length] at hv
    exact h1 acc hv
  · rintro i δi ⟨acc, _, rfl⟩ p hp
    exact List.mem_cons_of_mem _ (List.mem_cons_of_mem _ (hL p hp))
/-- the loop that looks for strangers -/
abbrev s_known : Stmt := (defBody s_Grammar_init).getD 3 (.Pass ⟨0, 0, 0, 0⟩)
theorem look_need1 {qp : Addr} : List.lookup ("need" : Str) [("parts", Dt.ref qp)] = none := rfl
theorem init_known {X : Cx} {A : Around} [B : Bd X ⟨P, w, K, mg, base, A⟩ N_Grammar_init (defScope s_Grammar_init)] [Bf X] (T : Txt K mg) (hr : Room 15 A) {F : Hp} {g qp : Addr} {M : Mm} {arg : Dt} {rules : Rules} {O : Out → Prop} (hg : GoodR rules)
    (h1 : Known rules → O (.nx ⟨[some (.ref g), some arg, none, none, none, none], (qp, .dK (pk rules)) :: (g, .ins (gG K) [("parts", .ref qp)]) :: M⟩))
    (h2 : ¬ Known rules → ∀ x, O (.err (He.ga K "NoRule") ((qp, x) :: (g, .ins (gG K) [("parts", .ref qp)]) :: M))) :
    S1 X F s_known ⟨[some (.ref g), some arg, none, none, none, none], (qp, .dK (pk rules)) :: (g, .ins (gG K) [("parts", .ref qp)]) :: M⟩ O := by
  have hI := ok_rules_in (P := P) (w := w) (base := base) T 12
  refine lock1 0 0 rfl (fun F1 od xs hF hxs => ?_)
  refine for1 ((i_keys 0 (d_fld 1 (d_v 0 rfl) rfl look_parts T.c_Grammar T.n_Grammar_parts) rfl hxs.keys).to (keys_pk' rules)) (I := fun i δ => δ = (⟨[some (.ref g), some arg, none, none, none, none], (qp, .lck (.frz od (.dK xs))) :: (g, .ins (gG K) [("parts", .ref qp)]) :: M⟩ : Sl) ∧ ∀ r ∈ rules.take i, ∀ s ∈ r.2.rules, s ∈ rules.map (·.1)) ⟨rfl, fun r hr' => by simp at hr'⟩ ?_ ?_ ?_
  · rintro i d δi ⟨rfl, hk⟩ hi
    rw [List.getElem?_map] at hi
    obtain ⟨r, hx, rfl⟩ := Option.map_eq_some_iff.mp hi
    have hrm : r ∈ rules := List.mem_of_getElem? hx
    have tk : rules.take (i + 1) = rules.take i ++ [r] := by rw [List.take_succ, hx]; rfl
    have hD : ∀ {x : Addr × Md}, DkAt F1 ((qp, .lck (.frz od (.dK xs))) :: x :: M) qp (pk rules) := .lck 0 rfl hxs
    refine ⟨_, g_n 2, ?_⟩
    refine s_for (i_lst (d_call hI (hr.mono (by decide)) (a_one (d_getD (.inr r.1) hr (d_fld 1 (d_v 0 rfl) rfl look_parts T.c_Grammar T.n_Grammar_parts) (d_v 2 rfl) hD (valD_pk hg.nd hrm))) (fun F1 _ => ⟨r.2, rfl, hg.deep r hrm, hg.size r hrm, rfl⟩))) (I := fun i δ => δ = (⟨[some (.ref g), some arg, some (.str r.1), none, none, none], (qp, .lck (.frz od (.dK xs))) :: (g, .ins (gG K) [("parts", .ref qp)]) :: M⟩ : Sl) ∧ ∀ s ∈ r.2.rules.take i, s ∈ rules.map (·.1)) ⟨rfl, fun s hs => by simp at hs⟩ ?_ ?_
    · rintro i' d δi ⟨rfl, hk'⟩ hi'
      rw [List.getElem?_map] at hi'
      obtain ⟨s, hs, rfl⟩ := Option.map_eq_some_iff.mp hi'
      have tk' : r.2.rules.take (i' + 1) = r.2.rules.take i' ++ [s] := by rw [List.take_succ, hs]; rfl
      refine ⟨_, g_n 4, ?_⟩
      refine s_expM (m_meth 1 (ok_need T) T.c_Grammar (hr.mono (by decide)) (d_v 0 rfl) rfl look_need1 (a_one (d_v 4 rfl)) (fun F2 hF2 => ⟨g, rules, s, rfl, ⟨1, qp, [], rfl, .inl rfl, hD.know hF2⟩, hg.nd, rfl⟩)) (fun d m' h => ?_) (fun C m' h => ?_)
      · rcases h with ⟨hm, h⟩ | ⟨_, h⟩
        · cases h
          refine s_nil ⟨_, .cons (.cons (.cons (.cons (.consN (.cons .nil))))), rfl, fun t ht => ?_⟩
          rw [tk', List.mem_append, List.mem_singleton] at ht
          rcases ht with ht | rfl
          · exact hk' t ht
          · exact hm
        · cases h
      · rcases h with ⟨_, h⟩ | ⟨hm, h⟩
        · cases h
        · cases h
          exact h2 (fun hK => hm (hK r hrm s (List.mem_of_getElem? hs))) _
    · rintro δn ⟨rfl, hk'⟩
      rw [List.length_map, List.take_length] at hk'
      refine s_nil ⟨_, .cons (.cons (.consN (.cons (.cons (.cons .nil))))), rfl, fun r' hr' => ?_⟩
      rw [tk, List.mem_append, List.mem_singleton] at hr'
      rcases hr' with hr' | rfl
      · exact hk r' hr'
      · exact hk'
  · rintro δn ⟨rfl, hk⟩
    rw [List.length_map, List.take_length] at hk
    exact ⟨rfl, h1 hk⟩
  · rintro i δi ⟨rfl, _⟩ p hp
    cases List.mem_singleton.mp hp
    exact List.mem_cons_self
/-- the loop that asks all rules -/
abbrev s_asks : Stmt := (defBody s_Grammar_init).getD 6 (.Pass ⟨0, 0, 0, 0⟩)
abbrev s_back : Stmt := (defBody s_Grammar_init).getD 7 (.Pass ⟨0, 0, 0, 0⟩)
theorem look_empty {qp qe : Addr} : List.lookup ("empty" : Str) [("parts", Dt.ref qp), ("empty", Dt.ref qe)] = some (.ref qe) := rfl
theorem init_asks {X : Cx} {A : Around} [B : Bd X ⟨P, w, K, mg, base, A⟩ N_Grammar_init (defScope s_Grammar_init)] [Bf X] (T : Txt K mg) (hr : Room 15 A) {F : Hp} {g qp qe qa : Addr} {M : Mm} {arg : Dt} {rules : Rules} {E : List Str} {O : Out → Prop} (hg : GoodR rules)
    (h1 : O (.nx ⟨[some (.ref g), some arg, none, none, none, some (.ref qa)], (qa, .dK (ak (aheads rules E))) :: (qe, .dK (ek E)) :: (qp, .dK (pk rules)) :: (g, .ins (gG K) [("parts", .ref qp), ("empty", .ref qe)]) :: M⟩)) :
    S1 X F s_asks ⟨[some (.ref g), some arg, none, none, none, some (.ref qa)], (qa, .dK []) :: (qe, .dK (ek E)) :: (qp, .dK (pk rules)) :: (g, .ins (gG K) [("parts", .ref qp), ("empty", .ref qe)]) :: M⟩ O := by
  have hA := ok_asked (P := P) (w := w) (base := base) T 12
  refine lock1 2 2 rfl (fun F1 od xs hF hxs => ?_)
  refine for1 ((i_keys 2 (d_fld 3 (d_v 0 rfl) rfl look_parts T.c_Grammar T.n_Grammar_parts) rfl hxs.keys).to (keys_pk' rules)) (I := fun i δ => δ = (⟨[some (.ref g), some arg, none, none, none, some (.ref qa)], (qa, .dK (ak (aheads (rules.take i) E))) :: (qe, .dK (ek E)) :: (qp, .lck (.frz od (.dK xs))) :: (g, .ins (gG K) [("parts", .ref qp), ("empty", .ref qe)]) :: M⟩ : Sl)) rfl ?_ ?_ ?_
  · rintro i d δi rfl hi
    rw [List.getElem?_map] at hi
    obtain ⟨r, hx, rfl⟩ := Option.map_eq_some_iff.mp hi
    have hrm : r ∈ rules := List.mem_of_getElem? hx
    have tk : rules.take (i + 1) = rules.take i ++ [r] := by rw [List.take_succ, hx]; rfl
    have hD : ∀ {x y z : Addr × Md}, DkAt F1 (x :: y :: (qp, .lck (.frz od (.dK xs))) :: z :: M) qp (pk rules) := .lck 2 rfl hxs
    refine ⟨_, g_n 2, ?_⟩
    have hnew : r.1 ∉ (aheads (rules.take i) E).map (·.1) := fun q => by
      have h2 : ((rules.take (i + 1)).map (·.1)).Nodup := by rw [List.map_take]; exact hg.nd.sublist (List.take_sublist _ _)
      rw [tk, List.map_append, List.nodup_append] at h2
      unfold aheads at q
      rw [List.map_map] at q
      exact h2.2.2 _ q r.1 (by simp) rfl
    refine s_putD 0 (.inr r.1) hr rfl ((m_call hA (hr.mono (by decide)) (a_cons (d_getD (.inr r.1) hr (d_fld 3 (d_v 0 rfl) rfl look_parts T.c_Grammar T.n_Grammar_parts) (d_v 2 rfl) hD (valD_pk hg.nd hrm)) (a_one (d_fld 3 (d_v 0 rfl) rfl look_empty T.c_Grammar T.n_Grammar_empty))) (fun F2 hF2 => ⟨r.2, qe, ek E, rfl, .at 1 rfl, hg.deep r hrm, hg.size r hrm, rfl⟩)).ev (fun r h => h)) (d_v 5 rfl) (d_v 2 rfl) ?_ (s_nil ?_)
    · unfold ak aheads
      rw [List.length_map, List.length_map, List.length_take]
      have := hg.len
      exact Nat.lt_of_le_of_lt (by omega : _ ≤ 100) (by decide)
    · refine ⟨_, .cons (.cons (.consN (.cons (.cons (.cons .nil))))), ?_⟩
      have e : ak (aheads (rules.take (i + 1)) E) = putD (ak (aheads (rules.take i) E)) (.inr r.1) (.lst ((r.2.ahead (inK (ek E))).map .str)) := by
        rw [putD_ak hnew, inK_ek, tk]
        unfold aheads
        rw [List.map_append]
        rfl
      rw [e]
      rfl
  · rintro δn rfl
    rw [List.length_map, List.take_length]
    exact ⟨rfl, h1⟩
  · rintro i δi rfl p hp
    cases List.mem_singleton.mp hp
    exact List.mem_cons_of_mem _ (List.mem_cons_of_mem _ List.mem_cons_self)
theorem init_back {X : Cx} {A : Around} [B : Bd X ⟨P, w, K, mg, base, A⟩ N_Grammar_init (defScope s_Grammar_init)] [Bf X] (T : Txt K mg) (hr : Room 15 A) {F : Hp} {g qa : Addr} {M : Mm} {arg : Dt} {rules : Rules} {E : List Str} {O : Out → Prop} (hg : GoodR rules) (hk : Known rules)
    (h1 : ¬ Rings rules E → O (.nx ⟨[some (.ref g), some arg, none, none, none, some (.ref qa)], (qa, .dK (ak (aheads rules E))) :: M⟩))
    (h2 : Rings rules E → ∀ x, O (.err (He.ga K "Circling") ((qa, x) :: M))) :
    S1 X F s_back ⟨[some (.ref g), some arg, none, none, none, some (.ref qa)], (qa, .dK (ak (aheads rules E))) :: M⟩ O := by
  have hB := ok_back (P := P) (w := w) (base := base) T
  have hga : GoodA (aheads rules E) := good_aheads hg.nd hk hg.size hg.len
  refine lock1 0 0 rfl (fun F1 od xs hF hxs => ?_)
  have ek' : ((ak (aheads rules E)).map fun kv => kD kv.1) = rules.map fun r => .str r.1 := by
    unfold ak aheads
    rw [List.map_map, List.map_map]
    rfl
  refine for1 ((i_keys 0 (d_v 5 rfl) rfl hxs.keys).to ek') (I := fun i δ => δ = (⟨[some (.ref g), some arg, none, none, none, some (.ref qa)], (qa, .lck (.frz od (.dK xs))) :: M⟩ : Sl) ∧ ∀ r ∈ rules.take i, ¬ Reach (aheads rules E) r.1 r.1) ⟨rfl, fun r hr' => by simp at hr'⟩ ?_ ?_ ?_
  · rintro i d δi ⟨rfl, hn⟩ hi
    rw [List.getElem?_map] at hi
    obtain ⟨r, hx, rfl⟩ := Option.map_eq_some_iff.mp hi
    have hrm : r ∈ rules := List.mem_of_getElem? hx
    have tk : rules.take (i + 1) = rules.take i ++ [r] := by rw [List.take_succ, hx]; rfl
    have hra : (r.1, r.2.ahead (memB E)) ∈ aheads rules E := List.mem_map.mpr ⟨r, hrm, rfl⟩
    refine ⟨_, g_n 2, ?_⟩
    by_cases hR : Reach (aheads rules E) r.1 r.1
    · refine s_ifT (t_val ((m_call (R := fun z => z = .ok (.bl true) _) (hB.imp (fun vs H Q E' h => ?_)) (hr.mono (by decide)) (a_cons (d_v 5 rfl) (a_one (d_v 2 rfl))) (pre := fun F ds m R => ∃ R', pBack F ds m R' ∧ ∀ z, R' z → R z) (fun F2 hF2 => ⟨_, ⟨qa, aheads rules E, _, rfl, .lck 0 rfl (hxs.mono hF2), hga, hra, rfl⟩, ?_⟩)).ev (fun r h => h))) ?_
      · obtain ⟨F, ds, m, R, s, r, ⟨R', hp, hi⟩, k⟩ := h
        exact ⟨F, ds, m, R', s, r, hp, fun z hz => k z (hi z hz)⟩
      · rintro z ⟨b, hb, rfl⟩
        rw [hb.mpr hR]
      · refine s_raise T.e_Circling ?_
        exact h2 ⟨r, hrm, hR⟩ _
    · refine s_no (t_val ((m_call (R := fun z => z = .ok (.bl false) _) (hB.imp (fun vs H Q E' h => ?_)) (hr.mono (by decide)) (a_cons (d_v 5 rfl) (a_one (d_v 2 rfl))) (pre := fun F ds m R => ∃ R', pBack F ds m R' ∧ ∀ z, R' z → R z) (fun F2 hF2 => ⟨_, ⟨qa, aheads rules E, _, rfl, .lck 0 rfl (hxs.mono hF2), hga, hra, rfl⟩, ?_⟩)).ev (fun r h => h))) ?_
      · obtain ⟨F, ds, m, R, s, r, ⟨R', hp, hi⟩, k⟩ := h
        exact ⟨F, ds, m, R', s, r, hp, fun z hz => k z (hi z hz)⟩
      · rintro z ⟨b, hb, rfl⟩
        cases b with
        | true => exact absurd (hb.mp rfl) hR
        | false => rfl
      · refine s_nil ⟨_, .cons (.cons (.consN (.cons (.cons (.cons .nil))))), rfl, fun r' hr' => ?_⟩
        rw [tk, List.mem_append, List.mem_singleton] at hr'
        rcases hr' with hr' | rfl
        · exact hn r' hr'
        · exact hR
  · rintro δn ⟨rfl, hn⟩
    rw [List.length_map, List.take_length] at hn
    exact ⟨rfl, h1 fun ⟨r, hr', hR⟩ => hn r hr' hR⟩
  · rintro i δi ⟨rfl, _⟩ p hp
    cases List.mem_singleton.mp hp
    exact List.mem_cons_self
theorem ok_init (T : Txt K mg) : CalM P w K mg base (L2N.CX P w) 16 "Grammar" "__init__" (spM (pInit K)) := by
  obtain ⟨fd, a⟩ := T.m_Grammar_init
  refine a.cal (fn_M a.fn sc_Grammar_init (fun F ds m R h => ?_) (fun X A B Bf hr F ds m R h => ?_))
  · obtain ⟨_, _, _, _, rfl, _⟩ := h; rfl
  obtain ⟨g, m0, arg, l, rfl, rfl, hA, hok, rfl⟩ := h
  obtain ⟨tm, hm⟩ := T.v_MOST_RULES
  obtain ⟨td, hdd⟩ := T.v_MOST_DEEP
  have hA1 : ListArg ((g, Md.ins (gG K) []) :: m0) arg (l.map fun x => .tup [x.1, x.2]) := by
    cases hA with
    | known => exact .known
    | cell j hj => exact .cell (j + 1) hj
  have hlen : (l.map fun x => Dt.tup [x.1, x.2]).length = l.length := List.length_map _
  refine s_when (t_not (t_chain_le d_int ((d_lenA T.b_len (d_v 1 rfl) hA1).to (by rw [hlen])) (d_gint hm))) (fun h1 => ?_) (fun h1 => ?_)
  · refine s_raise T.e_NoGrammar (EndM.drop (m' := m0) (.inl ⟨fun h => ?_, rfl⟩) (SubP.refl m0).drop)
    rw [Bool.not_eq_true', Bool.and_eq_false_iff] at h1
    rcases h1 with h1 | h1
    · exact of_decide_eq_false h1 (by omega)
    · exact of_decide_eq_false h1 (by omega)
  have hl1 : 1 ≤ l.length ∧ l.length ≤ 40 := by
    rw [Bool.not_eq_false', Bool.and_eq_true] at h1
    have h2 := of_decide_eq_true h1.1
    have h3 := of_decide_eq_true h1.2
    omega
  refine s_fldM m_dictK (fun C m' h => ?_) T.c_Grammar T.n_Grammar_parts (fun d m' h => ?_)
  · obtain ⟨_, _, h⟩ := h; cases h
  obtain ⟨qp, hqp, h⟩ := h
  cases h
  refine ⟨1, g, [], d_v 0 rfl, rfl, by decide, ?_⟩
  have fin : ∀ rules, Valid l rules → SD X F ((defBody s_Grammar_init).drop 3) ⟨[some (.ref g), some arg, none, none, none, none], (qp, .dK (pk rules)) :: (g, .ins (gG K) [("parts", .ref qp)]) :: m0⟩ (EndM (InitOut K g m0 l)) := fun rules hv => by
    have hg : GoodR rules := ⟨hv.nd, fun r hr => (hv.pt r hr).2, fun r hr => (hok (.str r.1, r.2.dt) (by rw [hv.eq]; exact List.mem_map.mpr ⟨r, hr, rfl⟩)).2.2 r.2 rfl, by have := hv.len; omega⟩
    have hO : ∀ {r : Rem}, ((¬ Known rules ∧ r = .err (He.ga K "NoRule") m0) ∨
        (Known rules ∧ ∃ E, IsEmp rules E ∧ ((Rings rules E ∧ r = .err (He.ga K "Circling") m0) ∨
          (¬ Rings rules E ∧ ∃ qp qe, r = .ok .non ((qe, .dK (ek E)) :: (qp, .dK (pk rules)) :: (g, .ins (gG K) [("parts", .ref qp), ("empty", .ref qe)]) :: m0))))) → InitOut K g m0 l r := fun h => .inr ⟨rules, hv, hl1.1, hl1.2, h⟩
    refine s_seq (init_known T hr hg (fun hk => ?_) (fun hk x => ?_))
    · show SD X F _ _ _
      refine s_fldM (m_call (ok_empty T) (hr.mono (by decide)) (a_one (d_fld 1 (d_v 0 rfl) rfl look_parts T.c_Grammar T.n_Grammar_parts)) (fun F1 _ => ⟨qp, rules, rfl, .at 0 rfl, hg, rfl⟩)) (fun C m' h => ?_) T.c_Grammar T.n_Grammar_empty (fun d m' h => ?_)
      · obtain ⟨_, _, _, _, h⟩ := h; cases h
      obtain ⟨qe, E, hqe, hE, h⟩ := h
      cases h
      refine ⟨2, g, [("parts", .ref qp)], d_v 0 rfl, rfl, (by show 1 < 1000; decide), ?_⟩
      refine s_asgM 5 m_dictK (fun d m' h => ?_) (fun C m' h => ?_)
      case refine_2 => obtain ⟨_, _, h⟩ := h; cases h
      obtain ⟨qa, hqa, h⟩ := h
      cases h
      refine s_seq (init_asks T hr hg ?_)
      show SD X F _ _ _
      refine s_seq (init_back T hr hg hk (fun hR => ?_) (fun hR x => ?_))
      · show SD X F _ _ _
        exact s_nil ⟨_, (SubP.refl _).drop, hO (.inr ⟨hk, E, hE, .inr ⟨hR, qp, qe, rfl⟩⟩)⟩
      · exact ⟨m0, (SubP.refl m0).drop.drop.drop.drop, hO (.inr ⟨hk, E, hE, .inl ⟨hR, rfl⟩⟩)⟩
    · exact ⟨m0, (SubP.refl m0).drop.drop, hO (.inl ⟨hk, rfl⟩)⟩
  have bad : (¬ ∃ rules, Valid l rules) → ∀ x y, EndM (InitOut K g m0 l) (.err (He.ga K "NoGrammar") ((qp, x) :: (g, y) :: m0)) := fun h x y => ⟨m0, (SubP.refl m0).drop.drop, .inl ⟨fun q => h q.2.2, rfl⟩⟩
  cases hA with
  | known =>
    refine s_seq (init_load (L := []) T hr (fun x hx => hok x hx) hl1.2 (i_lst (d_v 1 rfl)) (fun p hp => nomatch hp) (fun acc hv => fin acc hv) (fun h acc => bad h _ _))
  | cell j hj =>
    rename_i q
    refine s_seq (pinS (j + 2) (j + 2) hj (fun F1 xs hF hxs => ?_))
    have hj' : (m0.set j (q, Md.lck (.lst xs)))[j]? = some (q, .lck (.lst xs)) := set_at hj
    refine init_load (L := [(q, .lst xs)]) (M := m0.set j (q, .lck (.lst xs))) T hr (fun x hx => hok x hx) hl1.2 (i_pin (j + 2) (d_v 1 rfl) hj' hxs) (fun p hp => ?_) (fun acc hv => ?_) (fun h acc => ?_)
    · cases List.mem_singleton.mp hp
      exact mem_at hj'
    · refine ⟨hj', ?_⟩
      show SD X F _ ⟨_, (qp, _) :: (g, _) :: (m0.set j _).set j _⟩ _
      rw [set_back hj]
      exact fin acc hv
    · refine ⟨hj', ?_⟩
      show EndM _ (.err _ ((qp, _) :: (g, _) :: (m0.set j _).set j _))
      rw [set_back hj]
      exact bad h _ _
end
end Law

set_option Elab.async false
set_option linter.all false
set_option maxRecDepth 100000
set_option maxHeartbeats 4000000
/-! Some more rules. -/
namespace G
open PySem PySem.Spec PyProof.Rows L2
section
variable {X : Cx} {F : Hp} {δ : Sl} {ob : Expr} {ds : List Dt} {st : List Stmt} {O : Out → Prop} {apos pos : Pos} {Γ : Gm} {N : List Str} {sc : Scope}
/-- a new list that is emptied at once -/
theorem m_clearN [B : Bd X Γ N sc] (ho : EmD X F ob δ (NewL δ.m ds)) (hbase : attributeBase ob "clear" X.env (eval ob X.env) = eval ob X.env := by rfl) (hline : (apos.endLine == pos.line) = true := by rfl) :
    EmD X F (.Call (.Attribute ob "clear" apos) [] [] pos) δ (fun r => ∃ q, r = .ok .non ((q, Md.lst []) :: δ.m)) := (m_clearM ho (fun d m' h => by
  obtain ⟨q, hq, h⟩ := h
  cases h
  exact ⟨0, q, ds, rfl, rfl⟩) hbase hline).mono fun z h => by
  rcases h with ⟨d, m', j, q, ds', ⟨q', hq', h1⟩, h2, h3, rfl⟩ | ⟨C, m', ⟨q', hq', h1⟩, _⟩
  · cases h1
    cases h2
    cases j with
    | zero => exact ⟨_, rfl⟩
    | succ j => exact absurd (List.mem_map.mpr ⟨_, List.mem_of_getElem? (show δ.m[j]? = _ from h3), rfl⟩) hq'
  · cases h1
/-- an object in front is forgotten -/
theorem SD.drop1 {s : List (Option Dt)} {m : Mm} {x : Addr × Md} (h : SD X F st ⟨s, m⟩ O) : SD X F st ⟨s, x :: m⟩ O := h.pre ⟨fun _ _ h => h, (SubP.refl m).drop, Nat.le_refl _⟩
end
theorem s_asgC {X : Cx} {F : Hp} {δ : Sl} {e : Expr} {d : Dt} {rest : List Stmt} {O : Out → Prop} {pos pos' : Pos} {n : Str} {Γ : Gm} {N : List Str} {sc : Scope} [B : Bd X Γ N sc] [Bf X] (i : Nat) (he : EvD X F e δ d) (hr : SD X F rest (δ.set i (some d)) O) (hi : N[i]? = some n := by rfl) (hx : locB sc n = true := by decide +kernel)
    (hs : ∀ env : Env, env.scope = sc → swapsWith e (some (.Name n pos')) pos.line env = pure false := by intro env h; cases env; cases h; rfl) :
    SD X F (.Assign [.Name n pos'] e pos :: rest) δ O := s_asg i he hr hi hx (hs X.env B.hsc)
theorem ixN_last {n : Nat} (h : 0 < n) : ixN n (-1) = some (n - 1) := by
  unfold ixN
  simp
  omega
theorem atI_last' {α : Type} {l : List α} {x : α} (h : l ≠ []) (hx : l[l.length - 1]? = some x) : atI l (-1) = some x := by
  unfold atI
  rw [ixN_last (by cases l with | nil => exact absurd rfl h | cons a l => simp)]
  exact hx
end G

set_option Elab.async false
set_option linter.all false
set_option maxRecDepth 100000
set_option maxHeartbeats 4000000
/-! Dicts whose keys are tuples. -/
namespace G
open PySem PySem.Spec PyProof.Rows L2
section
variable {X : Cx} {F : Hp} {δ : Sl} {e a b ob : Expr} {d x y : Dt} {ds : List Dt} {rest : List Stmt} {O : Out → Prop} {pos apos p : Pos} {Γ : Gm} {N : List Str} {sc : Scope} {q : Addr}
inductive DtAt (F : Hp) (m : Mm) (q : Addr) (kvs : List (List Key × Dt)) : Prop
  | at (j : Nat) (hj : m[j]? = some (q, .dT kvs))
  | lck (j : Nat) {o : Obj} {xs : List (List Key × V)} (hj : m[j]? = some (q, .lck (.frz o (.dT xs)))) (hr : RepK F xs kvs)
theorem DtAt.rd {m : Mm} {F1 H : Hp} {kvs : List (List Key × Dt)} (h : DtAt F m q kvs) (s : Sta F1 H m) (f : Same F F1) : ∃ xs, Rd H q (.dT xs) ∧ RepK F1 xs kvs := by
  cases h with
  | «at» j hj =>
    obtain ⟨xs, h1, h2⟩ := s.dT hj
    exact ⟨xs, .inl h1, h2⟩
  | lck j hj hr =>
    obtain ⟨o, h1, h2⟩ := s.at hj
    cases h2
    exact ⟨_, .inr ⟨_, h1⟩, hr.mono f⟩
/-- a key as a datum -/
def ktD (k : List Key) : Dt := .tup (k.map kD)
theorem rep_ks {F1 : Hp} : ∀ {k : List Key} {vs : List V}, RepA F1 vs (k.map kD) → vs = k.map kV
  | [], _, .nil => rfl
  | k :: ks, _, .cons r1 r2 => by rw [rep_key r1, rep_ks r2]; rfl
theorem rep_kt {F1 H : Hp} {v : V} {k : List Key} (s : Same F1 H) (r : Rep F1 v (ktD k)) : ∃ b, v = .ref b ∧ H b = some (.tup (k.map kV)) := by
  unfold ktD at r
  cases r with
  | tup hp ra =>
    have := rep_ks ra
    subst this
    exact ⟨_, rfl, s _ _ hp⟩
theorem d_inT [B : Bd X Γ N sc] {k : Nat} (kk : List Key) {kvs : List (List Key × Dt)} (hr : Room k Γ.A) (ha : EvD X F a δ (ktD kk)) (hb : EvD X F b δ (.ref q)) (hd : DtAt F δ.m q kvs) (hm : behindInMarks .In b = false := by rfl) : EvD X F (.Compare a [.In] [b] pos) δ (.bl (valD kvs kk).isSome) := fun F1 H σ Q s c kq =>
  we (pe_cmp (pc_din (by rw [B.A]; exact room1 hr) pe pe) hm) (ha F1 H σ _ s c fun v F2 H2 e2 r2 => hb F2 H2 σ _ (s.trans e2.ff) (c.ext e2) fun u F3 H3 e3 r3 => by
    obtain ⟨xs, h1, h2⟩ := hd.rd e3.st ((s.trans e2.ff).trans e3.ff)
    cases r3
    obtain ⟨kb, rfl, hkb⟩ := rep_kt e3.sub (r2.mono e3.ff)
    refine ⟨q, valV xs kk, rfl, .inr ⟨xs, kk, kb, h1, rfl, hkb, rfl⟩, kq _ F3 H3 (e2.trans e3) ?_⟩
    rcases h2.val kk with ⟨z1, z2⟩ | ⟨v, d, z1, z2, _⟩ <;> (rw [z1, z2]; exact .bl _))
theorem t_inT [B : Bd X Γ N sc] {k : Nat} (kk : List Key) {kvs : List (List Key × Dt)} (hr : Room k Γ.A) (ha : EvD X F a δ (ktD kk)) (hb : EvD X F b δ (.ref q)) (hd : DtAt F δ.m q kvs) (hm : behindInMarks .In b = false := by rfl) : EtD X F (.Compare a [.In] [b] pos) δ (valD kvs kk).isSome := fun F1 H σ Q s c kq =>
  wt (pt_cmp (pc_din (by rw [B.A]; exact room1 hr) pe pe) hm) (ha F1 H σ _ s c fun v F2 H2 e2 r2 => hb F2 H2 σ _ (s.trans e2.ff) (c.ext e2) fun u F3 H3 e3 r3 => by
    obtain ⟨xs, h1, h2⟩ := hd.rd e3.st ((s.trans e2.ff).trans e3.ff)
    cases r3
    obtain ⟨kb, rfl, hkb⟩ := rep_kt e3.sub (r2.mono e3.ff)
    refine ⟨q, valV xs kk, rfl, .inr ⟨xs, kk, kb, h1, rfl, hkb, rfl⟩, _, rfl, ?_⟩
    have : (valV xs kk).isSome = (valD kvs kk).isSome := by rcases h2.val kk with ⟨z1, z2⟩ | ⟨v, d, z1, z2, _⟩ <;> rw [z1, z2] <;> rfl
    rw [this]
    exact kq F3 H3 (e2.trans e3))
theorem t_notInT [B : Bd X Γ N sc] {k : Nat} (kk : List Key) {kvs : List (List Key × Dt)} (hr : Room k Γ.A) (ha : EvD X F a δ (ktD kk)) (hb : EvD X F b δ (.ref q)) (hd : DtAt F δ.m q kvs) (hm : behindInMarks .NotIn b = false := by rfl) : EtD X F (.Compare a [.NotIn] [b] pos) δ (!(valD kvs kk).isSome) := fun F1 H σ Q s c kq =>
  wt (pt_cmp (pc_dnotin (by rw [B.A]; exact room1 hr) pe pe) hm) (ha F1 H σ _ s c fun v F2 H2 e2 r2 => hb F2 H2 σ _ (s.trans e2.ff) (c.ext e2) fun u F3 H3 e3 r3 => by
    obtain ⟨xs, h1, h2⟩ := hd.rd e3.st ((s.trans e2.ff).trans e3.ff)
    cases r3
    obtain ⟨kb, rfl, hkb⟩ := rep_kt e3.sub (r2.mono e3.ff)
    refine ⟨q, valV xs kk, rfl, .inr ⟨xs, kk, kb, h1, rfl, hkb, rfl⟩, _, rfl, ?_⟩
    have : (valV xs kk).isSome = (valD kvs kk).isSome := by rcases h2.val kk with ⟨z1, z2⟩ | ⟨v, d, z1, z2, _⟩ <;> rw [z1, z2] <;> rfl
    rw [this]
    exact kq F3 H3 (e2.trans e3))
theorem d_getT [B : Bd X Γ N sc] {k : Nat} (kk : List Key) {kvs : List (List Key × Dt)} (hr : Room k Γ.A) (ha : EvD X F a δ (.ref q)) (hb : EvD X F b δ (ktD kk)) (hd : DtAt F δ.m q kvs) (hv : valD kvs kk = some d) (hs : NoSl b := by exact fun _ _ => rfl) : EvD X F (.Subscript a b pos) δ d := fun F1 H σ Q s c kq =>
  we (pe_dget (by rw [B.A]; exact room1 hr) pe pe hs) (ha F1 H σ _ s c fun v F2 H2 e2 r2 => hb F2 H2 σ _ (s.trans e2.ff) (c.ext e2) fun u F3 H3 e3 r3 => by
    obtain ⟨xs, h1, h2⟩ := hd.rd e3.st ((s.trans e2.ff).trans e3.ff)
    cases r2
    obtain ⟨kb, rfl, hkb⟩ := rep_kt e3.sub r3
    rcases h2.val kk with ⟨z1, z2⟩ | ⟨v, d', z1, z2, z3⟩
    · rw [hv] at z2; cases z2
    · rw [hv] at z2; cases z2
      exact ⟨q, v, rfl, .inr ⟨xs, kk, kb, h1, rfl, hkb, z1.symm⟩, kq _ F3 H3 (e2.trans e3) z3⟩)
theorem s_putT [B : Bd X Γ N sc] {k : Nat} (j : Nat) (kk : List Key) {kvs : List (List Key × Dt)} {pos' : Pos} (hr : Room k Γ.A) (hj : δ.m[j]? = some (q, .dT kvs)) (hv : EvD X F e δ d) (ho : EvD X F a δ (.ref q)) (hi : EvD X F b δ (ktD kk)) (hz : kvs.length < sizeLine)
    (hR : SD X F rest (δ.to (δ.m.set j (q, .dT (putD kvs kk d)))) O) (hs : swapsWith e (some (.Subscript a b pos')) pos.line X.env = pure false := by rfl) : SD X F (.Assign [.Subscript a b pos'] e pos :: rest) δ O := fun F1 H σ D W s t c p =>
  wss (pss_cons (ps_dput (by rw [B.A]; exact room1 hr) pe pe pe hs) pss) (hv F1 H σ _ s c fun v F2 H2 e2 r2 => ho F2 H2 σ _ (s.trans e2.ff) (c.ext e2) fun u F3 H3 e3 r3 => hi F3 H3 σ _ ((s.trans e2.ff).trans e3.ff) ((c.ext e2).ext e3) fun w F4 H4 e4 r4 => by
    cases r3
    obtain ⟨kb, rfl, hkb⟩ := rep_kt e4.sub r4
    obtain ⟨xs, h1, h2⟩ := e4.st.dT hj
    have hv' : Rep F4 v d := (r2.mono e3.ff).mono e4.ff
    have e5 := ((e2.trans e3).trans e4).trans (Ext.mut e4.st hj (.dT (h2.put kk hv')))
    exact ⟨q, _, rfl, DPut.t h1 hkb (by rw [h2.length]; exact hz), hR F4 _ σ D W (s.trans e5.ff) t (c.to e5) fun o ho => (p o ho).ext e5⟩)
end
end G

set_option Elab.async false
set_option linter.all false
set_option maxRecDepth 100000
set_option maxHeartbeats 4000000
/-! A tuple walked from its end; cells in another order. -/
namespace G
open PySem PySem.Spec PyProof.Rows L2
theorem SubP.perm {a b : Mm} (h : a.Perm b) : SubP a b := ⟨fun z q => h.mem_iff.mp q, fun q => ((h.map _).nodup_iff).mpr q⟩
section
variable {X : Cx} {F : Hp} {δ : Sl} {e tg : Expr} {ds : List Dt} {p pos : Pos} {Γ : Gm} {N : List Str} {sc : Scope}
theorem i_revT [B : Bd X Γ N sc] (hm : Γ.mg "reversed" = none) (he : EvD X F e δ (.tup ds)) (hg : glB sc "reversed" = true := by decide +kernel) (hs : starEach [e] X.env = (false, eval e X.env) :: starEach [] X.env := by first | exact plSt | rfl) :
    IterD X F [] tg (.Call (.Name "reversed" p) [e] [] pos) δ ds.reverse := fun F1 H σ R s c k =>
  wi (RT.pi_revA (B.gl hg).1 (by rw [B.mg]; exact hm) pe hs) (he F1 H σ _ s c fun v F2 H2 e2 r2 => by
    cases r2 with
    | tup hp ra =>
      rename_i q xs
      have hl := ra.length
      have at_ : ∀ {i : Nat} {d : Dt}, ds.reverse[i]? = some d → ∃ v, xs[xs.length - 1 - i]? = some v ∧ Rep F2 v d := fun {i d} hi => by
        have hi' : i < ds.length := by
          have := (List.getElem?_eq_some_iff.mp hi).1
          rwa [List.length_reverse] at this
        rw [List.getElem?_reverse hi'] at hi
        obtain ⟨v, h1, h2⟩ := ra.get hi
        exact ⟨v, by rw [hl]; exact h1, h2⟩
      refine ⟨q, xs, rfl, .inr ⟨SqT.of (e2.sub _ _ hp), k _ F2 H2 e2 ⟨fun i H' s' _ hi => ?_, fun i d m Fc H' x H'' hi s1 s2 _ hy => ?_, fun i H' s' _ hi => ?_⟩⟩⟩
      · obtain ⟨v, h1, _⟩ := at_ (List.getElem?_eq_getElem hi)
        rw [List.length_reverse] at hi
        exact ⟨by omega, xs, v, SqT.of (s' _ _ hp), h1⟩
      · obtain ⟨rfl, hy⟩ := hy
        obtain ⟨v, hv, rv⟩ := at_ hi
        have q1 := hy _ (SqT.of (s2.sub _ _ (s1 _ _ hp)))
        rw [hv] at q1
        cases q1
        exact ⟨Fc, .refl s2, rv.mono s1⟩
      · show xs.length ≤ i
        rw [List.length_reverse] at hi
        omega)
variable {ob : Expr} {es : List Expr} {apos : Pos} {d : Dt}
/-- an argument whose form is told -/
theorem a_tc (hp : Pl e) (h : EvD X F e δ d) (hr : EaD X F es δ ds) : EaD X F (e :: es) δ (d :: ds) := a_cons h hr (hp.st _ _)
/-- some made in a row, which change the memory; none of them raises -/
def EaM (X : Cx) (F : Hp) (es : List Expr) (δ : Sl) (R : List Dt → Mm → Prop) : Prop := ∀ (F1 H : Hp) (σ : L2.St) (Q : List V → Hp → Prop) (W : WX), Same F F1 → L2N.Takes X W → Ctx F1 H σ δ → (∀ ds m', R ds m' → ∀ vs F' H', Ext δ.m F1 H F' H' m' → RepA F' vs ds → Q vs H') → WA X es σ H Q
theorem am_nil : EaM X F [] δ (fun ds m' => ds = [] ∧ m' = δ.m) := fun F1 H σ Q W _ _ c k => wa pa_nil (k [] δ.m ⟨rfl, rfl⟩ [] F1 H (.refl c.st) .nil)
theorem am_end {R : List Dt → Mm → Prop} (h : R [] δ.m) : EaM X F [] δ R := fun F1 H σ Q W _ _ c k => wa pa_nil (k [] δ.m h [] F1 H (.refl c.st) .nil)
theorem am_cons {R0 : Rem → Prop} {R : List Dt → Mm → Prop} (h : EmD X F e δ R0) (he : ∀ C m', ¬ R0 (.err C m')) (hr : ∀ d m1, R0 (.ok d m1) → EaM X F es (δ.to m1) (fun ds m' => R (d :: ds) m')) (hs : starEach (e :: es) X.env = (false, eval e X.env) :: starEach es X.env := by first | exact plSt | rfl) : EaM X F (e :: es) δ R := fun F1 H σ Q W s t c k =>
  wa (pa_cons pe pa hs) (h F1 H σ _ W s t c fun r hr0 => by
    cases r with
    | err C m' => exact absurd hr0 (he C m')
    | ok d m1 => exact fun v F2 H2 e2 r2 => hr d m1 hr0 F2 H2 σ _ W (s.trans e2.ff) t (c.to e2) fun ds m' hd vs F3 H3 e3 r3 => k _ m' hd _ F3 H3 (e2.trans e3) (.cons (r2.mono e3.ff) r3))
theorem m_lstM {R : List Dt → Mm → Prop} (h : EaM X F es δ R) (hz : ∀ ds m', R ds m' → ds.length ≤ 1000) : EmD X F (.List es pos) δ (fun z => ∃ ds m', R ds m' ∧ z = .ok (.lst ds) m') := fun F1 H σ Q W s t c k =>
  we (pe_lst pa) (h F1 H σ _ W s t c fun ds m' hd vs F2 H2 e2 r2 => ⟨by rw [r2.length]; exact Nat.le_of_lt (small1000 (hz ds m' hd)), fun p hp =>
    k _ ⟨ds, m', hd, rfl⟩ _ _ _ (e2.trans (.mk1 e2.st hp (.lst vs))) (.lst upd_same (r2.mono (Ext.mk1 e2.st hp (.lst vs)).ff))⟩)
/-- a method of what was just made -/
theorem m_methM [B : Bd X Γ N sc] {k : Nat} {Cn m : Str} {pre : Hp → List Dt → Mm → (Rem → Prop) → Prop} {R0 R : Rem → Prop} {pl : Sem Bool} (C : CalM Γ.P Γ.w Γ.K Γ.mg Γ.base (L2N.CX Γ.P Γ.w) k Cn m (spM pre)) (hc : Cls Γ.K (He.ga Γ.K Cn)) (hr : Room k Γ.A)
    (ho : EmD X F ob δ R0) (hok : ∀ d m', R0 (.ok d m') → ∃ (j : Nat) (q : Addr) (fs : List (Str × Dt)) (ds : List Dt) (R1 : Rem → Prop), d = .ref q ∧ m'[j]? = some (q, .ins (He.ga Γ.K Cn) fs) ∧ fs.lookup m = none ∧ EaD X F (e :: es) (δ.to m') ds ∧ (∀ F1, Same F F1 → pre F1 (.ref q :: ds) m' R1) ∧ ∀ r, R1 r → R r) (herr : ∀ C m', R0 (.err C m') → R (.err C m'))
    (he : starEach (e :: es) X.env = (false, eval e X.env) :: starEach es X.env := by first | exact plSt | rfl) (hpl : (backTo pos (starEach es X.env)).any (·.1) = false := by rfl)
    (ht : eval (.Call (.Attribute ob m apos) (e :: es) [] pos) X.env = (do
      let ov ← eval ob X.env
      standAt apos.atName
      let (f, first) ← holding [ov] (getMethod ov m pl)
      callWith pos f first (backTo pos (starEach (e :: es) X.env)) (backToKw pos (keywordEach [] X.env))) := by rfl) :
    EmD X F (.Call (.Attribute ob m apos) (e :: es) [] pos) δ R := fun F1 H σ Q W s t c kq => by
  obtain ⟨f, fd, ps, g1, g2, g3⟩ := C.ex
  refine we (pe_meth (dvs := []) (ds := []) pe (by rw [B.K]; exact hc) (by rw [B.K]; exact g2) (by rw [B.prog, B.w, B.K, B.mg, B.base]; exact g1) (by rw [B.A]; exact hr) (by rw [B.K]; exact g3) .nil (by rw [← B.prog, ← B.w]; exact passW t) pa he hpl ht) (ho F1 H σ _ W s t c fun r hr0 => ?_)
  cases r with
  | err C m' => exact fun F2 H2 σ2 e2 => kq _ (herr C m' hr0) F2 H2 σ2 e2
  | ok d m' =>
    obtain ⟨j, q, fs, ds, R1, rfl, hj, hf, ha, hpre, hR1⟩ := hok d m' hr0
    intro v F2 H2 e2 r2
    cases r2
    obtain ⟨dx, xs, h1, h2⟩ := e2.st.ins hj
    have hl : xs.lookup m = none := by
      rcases h2.look m with ⟨z, _⟩ | ⟨_, _, _, z, _⟩
      · exact z
      · rw [hf] at z; cases z
    refine ⟨q, dx, xs, rfl, h1, hl, ha F2 H2 σ _ (s.trans e2.ff) (c.to e2) fun vs F3 H3 e3 r3 => ?_⟩
    rw [List.append_nil]
    refine ⟨F3, _, m', R1, e3.st, .cons (.ref q) r3, hpre F3 ((s.trans e2.ff).trans e3.ff), fun r hR => ?_⟩
    cases r with
    | ok d m2 => exact fun v F4 H4 e4 r4 => kq _ (hR1 _ hR) v F4 H4 ((e2.trans e3).trans e4) r4
    | err C m2 => exact fun F4 H4 e4 σ' => kq _ (hR1 _ hR) F4 H4 σ' ((e2.trans e3).trans e4)
end
end G

set_option Elab.async false
set_option linter.all false
set_option maxRecDepth 100000
set_option maxHeartbeats 2000000
/-! Rules for the notes: texts cut, things made within things, and what raises within. -/
namespace G
open PySem PySem.Spec PyProof.Rows L2
section
variable {X : Cx} {F : Hp} {δ : Sl} {e e1 e2 a ob : Expr} {es : List Expr} {d d1 : Dt} {ds : List Dt} {pos apos : Pos} {Γ : Gm} {N : List Str} {sc : Scope} {q C : Addr} {m1 : Mm}
/-- one of some in a row raises -/
def EaX (X : Cx) (F : Hp) (es : List Expr) (δ : Sl) (C : Addr) (m1 : Mm) : Prop := ∀ (F1 H : Hp) (σ : L2.St) (Q : List V → Hp → Prop) (W : WX), Same F F1 → L2N.Takes X W → Ctx F1 H σ δ → (∀ F' H' σ', Ext δ.m F1 H F' H' m1 → W (.ref C) none σ' H') → WA X es σ H Q
theorem ax_here (h : EmD X F e δ (fun z => z = .err C m1)) (hs : starEach (e :: es) X.env = (false, eval e X.env) :: starEach es X.env := by first | exact plSt | rfl) : EaX X F (e :: es) δ C m1 := fun F1 H σ Q W s t c k =>
  wa (pa_cons pe pa hs) (h F1 H σ _ W s t c fun r hr => by subst hr; exact fun F' H' σ' e' => k F' H' σ' e')
theorem ax_next (h : EvD X F e δ d) (hr : EaX X F es δ C m1) (hs : starEach (e :: es) X.env = (false, eval e X.env) :: starEach es X.env := by first | exact plSt | rfl) : EaX X F (e :: es) δ C m1 := fun F1 H σ Q W s t c k =>
  wa (pa_cons pe pa hs) (h F1 H σ _ s c fun v F2 H2 e2 r2 => hr F2 H2 σ _ W (s.trans e2.ff) t (c.ext e2) fun F' H' σ' e' => k F' H' σ' (e2.trans e'))
theorem m_tupX {x1} (h : EaX X F es δ C m1) : EmD X F (.Tuple es x1 pos) δ (fun z => z = .err C m1) := fun F1 H σ Q W s t c k =>
  we (pe_tup pa) (h F1 H σ _ W s t c fun F' H' σ' e' => k _ rfl F' H' σ' e')
theorem m_lstX (h : EaX X F es δ C m1) : EmD X F (.List es pos) δ (fun z => z = .err C m1) := fun F1 H σ Q W s t c k =>
  we (pe_lst pa) (h F1 H σ _ W s t c fun F' H' σ' e' => k _ rfl F' H' σ' e')
/-- what is appended raises -/
theorem m_appendX [B : Bd X Γ N sc] (j : Nat) (hj : δ.m[j]? = some (q, .lst ds)) (ho : EvD X F ob δ (.ref q)) (ha : EmD X F a δ (fun z => z = .err C m1))
    (hbase : attributeBase ob "append" X.env (eval ob X.env) = eval ob X.env := by rfl)
    (hfew : ((backTo pos (starEach [a] X.env)).all (fun x => !x.1) && (backToKw pos (keywordEach [] X.env)).all (fun x => x.1.isSome)
      && decide (([a] : List Expr).length + ([] : List Keyword).length + (if ([] : List Keyword).isEmpty then 0 else 1) < 30)) = true := by rfl)
    (hline : (apos.endLine == pos.line) = true := by rfl) (hs : starEach [a] X.env = (false, eval a X.env) :: starEach [] X.env := by first | exact plSt | rfl) :
    EmD X F (.Call (.Attribute ob "append" apos) [a] [] pos) δ (fun z => z = .err C m1) := fun F1 H σ Q W s t c k =>
  we (pe_bm PySem.F.plainAttrs_list PySem.F.slot_list_append PySem.F.type_list_append mt_append pe pa hbase hfew hline hs pl0) (ho F1 H σ _ s c fun v F2 H2 e2 r2 => by
    cases r2
    obtain ⟨xs, h1, _⟩ := e2.st.lst hj
    exact ⟨.inl ⟨rfl, _, SqL.of h1⟩, ax_here ha hs F2 H2 σ _ W (s.trans e2.ff) t (c.ext e2) fun F' H' σ' e' => k _ rfl F' H' σ' (e2.trans e')⟩)
/-- things made within a tuple -/
theorem m_tupM {x1} {R : List Dt → Mm → Prop} (h : EaM X F es δ R) (hz : ∀ ds m', R ds m' → ds.length ≤ 1000) : EmD X F (.Tuple es x1 pos) δ (fun z => ∃ ds m', R ds m' ∧ z = .ok (.tup ds) m') := fun F1 H σ Q W s t c k =>
  we (pe_tup pa) (h F1 H σ _ W s t c fun ds m' hd vs F2 H2 e2 r2 => ⟨by rw [r2.length]; exact Nat.le_of_lt (small1000 (hz ds m' hd)), fun p hp =>
    k _ ⟨ds, m', hd, rfl⟩ _ _ _ (e2.trans (.mk1 e2.st hp (.tup vs))) (.tup upd_same (r2.mono (Ext.mk1 e2.st hp (.tup vs)).ff))⟩)
/-- .. and within a new list of one's own -/
theorem m_lstN {R : List Dt → Mm → Prop} (h : EaM X F es δ R) (hz : ∀ ds m', R ds m' → ds.length ≤ 1000) : EmD X F (.List es pos) δ (fun z => ∃ ds m', R ds m' ∧ NewL m' ds z) := fun F1 H σ Q W s t c k =>
  we (pe_lst pa) (h F1 H σ _ W s t c fun ds m' hd vs F2 H2 e2 r2 => ⟨by rw [r2.length]; exact Nat.le_of_lt (small1000 (hz ds m' hd)), fun p hp =>
    k _ ⟨ds, m', hd, p, e2.st.ads_ne hp, rfl⟩ _ F2 _ (e2.trans (Ext.mkM e2.st hp (.lst r2))) (.ref p)⟩)
/-- a text cut -/
theorem d_split {i j : Str} (h : EvD X F e δ (.str i)) (ha : EvD X F a δ (.str j)) (hj : (j.length == 0) = false) (hz : i.length + 2 ≤ sizeLine) (hs : starEach [a] X.env = [(false, eval a X.env)] := by rfl) (hbase : attributeBase e "split" X.env (eval e X.env) = eval e X.env := by rfl) (hline : (apos.endLine == pos.line) = true := by rfl) :
    EvD X F (.Call (.Attribute e "split" apos) [a] [] pos) δ (.lst ((Txt.split i j).map .str)) := fun F1 H σ Q s c k => we (pe_split pe pe hs hbase hline) (h F1 H σ _ s c fun v F2 H2 e2 r2 => by
  cases r2
  refine ⟨⟨i, rfl⟩, ha F2 H2 σ _ (s.trans e2.ff) (c.ext e2) fun v F3 H3 e3 r3 => ?_⟩
  cases r3
  refine ⟨i, j, rfl, rfl, hj, hz, fun p hp => ?_⟩
  have em := Ext.mk1 e3.st hp (.lst ((Txt.split i j).map V.str))
  exact k _ _ _ ((e2.trans e3).trans em) (.lst upd_same (RepA.ofStrs _)))
end
end G

set_option Elab.async false
set_option linter.all false
set_option maxRecDepth 100000
set_option maxHeartbeats 1000000
/-! notes.py: words, numbers, signs, leaves, what opens and closes. -/
namespace G
open PySem PySem.Spec PyProof.Rows L2
section
variable {X : Cx} {F : Hp} {δ : Sl} {e : Expr} {ds : List Dt} {q : Addr} {p pos : Pos} {Γ : Gm} {N : List Str} {sc : Scope}
theorem d_tupC [B : Bd X Γ N sc] (j : Nat) (hm : Γ.mg "tuple" = none) (h : EvD X F e δ (.ref q)) (hj : δ.m[j]? = some (q, .lst ds)) (hg : glB sc "tuple" = true := by decide +kernel) (he : starEach [e] X.env = (false, eval e X.env) :: starEach [] X.env := by first | exact plSt | rfl) :
    EvD X F (.Call (.Name "tuple" p) [e] [] pos) δ (.tup ds) := fun F1 H σ Q s c k =>
  we (pe_callTy call_tuple_of (B.gl hg).1 (by rw [B.mg]; exact hm) (by decide +kernel) pa (B.gl hg).2.2 (B.gl hg).2.1 he pl0) (a_one h he F1 H σ _ s c fun vs F2 H2 e2 r2 => by
    cases r2 with
    | cons r1 r2 =>
      cases r2
      cases r1
      obtain ⟨xs, h1, h2⟩ := e2.st.lst hj
      exact ⟨_, _, rfl, .inl ⟨SqL.of h1, fun l hl => k _ _ _ (e2.trans (.mk1 e2.st hl _)) (.tup upd_same (h2.mono (Ext.mk1 e2.st hl _).ff))⟩⟩)
end
end G
namespace Law
open PySem PySem.Spec PyProof.Rows L2 G
section
variable {P : Program} {w : World} {K : PySem.W.Frag} {mg : Str → Option Value} {base : Heap}
abbrev wsD (ws : List Str) : Dt := .lst (ws.map .str)
abbrev noN (K : PySem.W.Frag) : Addr := He.ga K "NoNotes"
/-- words that are not too long -/
def Short (ws : List Str) : Prop := ws.length ≤ 100000 ∧ ∀ w ∈ ws, w.length ≤ 100000
def rO {α : Type} (K : PySem.W.Frag) (f : α → Dt) : Option α → Res
  | some x => .ok (f x)
  | none => .err (noN K)
theorem ws_at {ws : List Str} {i : Nat} {x : Str} (h : ws[i]? = some x) : atI (ws.map Dt.str) ((i : Nat) : Int) = some (.str x) := by
  refine atI_nat ?_
  rw [List.getElem?_map, h]
  rfl
def pWord (K : PySem.W.Frag) (_ : Hp) (ds : List Dt) (r : Res) : Prop := ∃ (ws : List Str) (i : Nat), ds = [wsD ws, .int (i : Nat)] ∧ r = rO K .str (wordAt ws i)
theorem ok_word_at (T : Txt K mg) : Cal P w K mg base (L2N.CX P w) 1 "word_at" (spR (pWord K)) := by
  obtain ⟨f, fd, a⟩ := T.d_word_at
  refine a.cal (fn_X a.fn sc_word_at (fun F ds r h => ?_) (fun X A B Bf hr F ds r h => ?_))
  · obtain ⟨_, _, rfl, _⟩ := h; rfl
  obtain ⟨ws, i, rfl, rfl⟩ := h
  cases hx : ws[i]? with
  | none =>
    have hl : ws.length ≤ i := by
      rcases Nat.lt_or_ge i ws.length with h | h
      · rw [List.getElem?_eq_getElem h] at hx; cases hx
      · exact h
    have e : wordAt ws i = none := by unfold wordAt; rw [hx]
    rw [e]
    refine s_when (k := true) ((t_w (w_or (p := true) (q := false) ((t_ge (d_v 1 rfl) (d_lenL T.b_len (d_v 0 rfl))).to (by rw [List.length_map]; exact decide_eq_true (by omega))) (fun h => nomatch h))).to rfl) (fun h1 => ?_) (fun h => nomatch h)
    refine s_raise T.e_NoNotes ?_
    rfl
  | some x =>
    have hl : i < ws.length := (List.getElem?_eq_some_iff.mp hx).1
    refine s_when (t_w (w_or ((t_ge (d_v 1 rfl) (d_lenL T.b_len (d_v 0 rfl))).to (k' := false) (by rw [List.length_map]; exact decide_eq_false (by omega))) (fun _ => w_or1 (t_eq (d_ixL (d_v 0 rfl) (d_v 1 rfl) (ws_at hx)) d_str)))) (fun h1 => ?_) (fun h1 => ?_)
    · have h1' : x = ("" : Str) := of_decide_eq_true h1
      have e : wordAt ws i = none := by unfold wordAt; rw [hx]; exact if_pos h1'
      rw [e]
      refine s_raise T.e_NoNotes ?_
      rfl
    · have h1' : ¬ x = ("" : Str) := of_decide_eq_false h1
      have e : wordAt ws i = some x := by unfold wordAt; rw [hx]; exact if_neg h1'
      rw [e]
      exact s_ret (d_ixL (d_v 0 rfl) (d_v 1 rfl) (ws_at hx)) rfl
/-- calls of what may refuse -/
theorem call_err {X : Cx} {F : Hp} {δ : Sl} {Γ : Gm} {N : List Str} {sc : Scope} {k : Nat} {n : Str} {pre : Hp → List Dt → Res → Prop} {e : Expr} {es : List Expr} {ds : List Dt} {C : Addr} {p pos : Pos} [B : Bd X Γ N sc] (Cc : Cal Γ.P Γ.w Γ.K Γ.mg Γ.base (L2N.CX Γ.P Γ.w) k n (spR pre)) (hr : Room k Γ.A) (ha : EaD X F (e :: es) δ ds) (hpre : ∀ F1, Same F F1 → pre F1 ds (.err C))
    (hg : glB sc n = true := by decide +kernel) (he : starEach (e :: es) X.env = (false, eval e X.env) :: starEach es X.env := by first | exact plSt | rfl) (hpl : (backTo pos (starEach es X.env)).any (·.1) = false := by rfl) :
    EmD X F (.Call (.Name n p) (e :: es) [] pos) δ (fun z => z = .err C δ.m) := m_call Cc.m hr ha (fun F1 h => ⟨.err C, hpre F1 h, rfl⟩) hg he hpl
theorem call_ok {X : Cx} {F : Hp} {δ : Sl} {Γ : Gm} {N : List Str} {sc : Scope} {k : Nat} {n : Str} {pre : Hp → List Dt → Res → Prop} {e : Expr} {es : List Expr} {ds : List Dt} {d : Dt} {p pos : Pos} [B : Bd X Γ N sc] (Cc : Cal Γ.P Γ.w Γ.K Γ.mg Γ.base (L2N.CX Γ.P Γ.w) k n (spR pre)) (hr : Room k Γ.A) (ha : EaD X F (e :: es) δ ds) (hpre : ∀ F1, Same F F1 → pre F1 ds (.ok d))
    (hg : glB sc n = true := by decide +kernel) (he : starEach (e :: es) X.env = (false, eval e X.env) :: starEach es X.env := by first | exact plSt | rfl) (hpl : (backTo pos (starEach es X.env)).any (·.1) = false := by rfl) :
    EvD X F (.Call (.Name n p) (e :: es) [] pos) δ d := (m_call Cc.m hr ha (fun F1 h => ⟨.ok d, hpre F1 h, rfl⟩) hg he hpl).ev fun r hr => hr
theorem word_short {ws : List Str} {i : Nat} {x : Str} (hs : Short ws) (h : wordAt ws i = some x) : x.length ≤ 100000 := hs.2 x (List.mem_of_getElem? (wordAt_lt h).1)
theorem word_cons {ws : List Str} {i : Nat} {x : Str} (h : wordAt ws i = some x) : ∃ c cs, x.cps.toList = c :: cs := by
  have h1 := (wordAt_lt h).2.1
  cases e : x.cps.toList with
  | nil =>
    exfalso
    refine h1 ?_
    obtain ⟨⟨l⟩⟩ := x
    simp only at e
    subst e
    decide +kernel
  | cons c cs => exact ⟨c, cs, rfl⟩
theorem zero_eq : ("0" : Str) = sg 48 := by decide +kernel
theorem figs_eq {c : Nat} (h : c ∈ digitsS.cps.toList) : 48 ≤ c ∧ c ≤ 57 := by
  have e : digitsS.cps.toList = (List.range 10).map (48 + ·) := by decide +kernel
  rw [e] at h
  obtain ⟨k, hk, rfl⟩ := List.mem_map.mp h
  have := List.mem_range.mp hk
  omega
def pNumA (K : PySem.W.Frag) (_ : Hp) (ds : List Dt) (r : Res) : Prop := ∃ (ws : List Str) (i : Nat), ds = [wsD ws, .int (i : Nat)] ∧ Short ws ∧ r = rO K (fun n : Nat => .int (n : Nat)) (G.numAt ws i)
theorem ok_number_at (T : Txt K mg) : Cal P w K mg base (L2N.CX P w) 2 "number_at" (spR (pNumA K)) := by
  obtain ⟨f, fd, a⟩ := T.d_number_at
  have hW := ok_word_at (P := P) (w := w) (base := base) T
  refine a.cal (fn_X a.fn sc_number_at (fun F ds r h => ?_) (fun X A B Bf hr F ds r h => ?_))
  · obtain ⟨_, _, rfl, _⟩ := h; rfl
  obtain ⟨ws, i, rfl, hs, rfl⟩ := h
  unfold G.numAt
  cases hw : wordAt ws i with
  | none =>
    refine s_asgM 2 (call_err hW hr (a_cons (d_v 0 rfl) (a_one (d_v 1 rfl))) (fun F1 _ => ⟨ws, i, rfl, by rw [hw]; rfl⟩)) (fun d m' h => nomatch h) (fun C m' h => ?_)
    cases h
    rfl
  | some x =>
    refine s_asg 2 (call_ok hW hr (a_cons (d_v 0 rfl) (a_one (d_v 1 rfl))) (fun F1 _ => ⟨ws, i, rfl, by rw [hw]; rfl⟩)) ?_
    have hx := word_short hs hw
    have hxs : x.length ≤ sizeLine := Nat.le_trans hx (by decide)
    obtain ⟨c, cs, hc⟩ := word_cons hw
    have e1 : decide ((4 : Int) < (x.length : Nat)) = decide (4 < x.length) := by rw [decide_eq_decide]; omega
    have e2 : decide ((1 : Int) < (x.length : Nat)) = decide (1 < x.length) := by rw [decide_eq_decide]; omega
    have e3 : sameD (.str ⟨#[c]⟩) (.str "0") = decide (x.cps.toList.head? = some 48) := by
      show sameD (.str (sg c)) (.str "0") = _
      rw [hc, zero_eq, sg_eq]
      simp
    refine s_when (k := decide (4 < x.length ∨ isFig x = false ∨ (x.cps.toList.head? = some 48 ∧ 1 < x.length))) (t_w ((w_or (t_gt (d_lenS T.b_len (d_v 2 rfl) hxs) d_int) (fun _ => w_or (t_not (t_val (d_all T.b_all (EvD.to (d_lc0 3 (fun c => Dt.bl (decide (c ∈ digitsS.cps.toList))) (i_str (d_v 2 rfl)) rfl (fun c hc X' B' => (d_inS (c := c) (d_v 3 rfl) d_str).to rfl) ?_) (d' := .lst ((x.cps.toList.map fun c => decide (c ∈ digitsS.cps.toList)).map .bl)) (by rw [List.map_map]; rfl))))) (fun _ => w_or1 (t_w (w_and (t_eq (d_ixS (c := c) (d_v 2 rfl) d_int hxs (by rw [hc]; exact atI_nat (j := 0) rfl)) d_str) (fun _ => w_and1 (t_gt (d_lenS T.b_len (d_v 2 rfl) hxs) d_int))))))).to ?_)) (fun h1 => ?_) (fun h1 => ?_)
    · show x.cps.toList.length < sizeLine
      rw [Array.length_toList]
      exact Nat.lt_of_le_of_lt hx (by decide)
    · rw [e1, e2, e3]
      have e4 : ((x.cps.toList.map fun c => decide (c ∈ digitsS.cps.toList)).all id) = isFig x := by
        unfold isFig
        rw [List.all_map]
        rfl
      rw [e4]
      by_cases a1 : 4 < x.length <;> by_cases a2 : x.cps.toList.head? = some 48 <;> by_cases a3 : 1 < x.length <;> cases isFig x <;> simp [a1, a2, a3]
    · have h1' := of_decide_eq_true h1
      refine s_raise T.e_NoNotes ?_
      show rO K (fun n : Nat => Dt.int (n : Nat)) (numW x) = Res.err _
      unfold numW
      rw [if_pos h1']
      rfl
    · have h1' := of_decide_eq_false h1
      have hfig : isFig x = true := by
        cases h : isFig x with
        | true => rfl
        | false => exact absurd (Or.inr (Or.inl h)) h1'
      have h4 : x.length ≤ 4 := by
        rcases Nat.lt_or_ge 4 x.length with h | h
        · exact absurd (Or.inl h) h1'
        · exact h
      have hd : NumText.AllDigits x.cps.toList := fun c hc => by
        unfold isFig at hfig
        exact figs_eq (of_decide_eq_true (List.all_eq_true.mp hfig c hc))
      have hi := PySem.intText_digits hd (by rw [hc]; simp) (Nat.le_trans h4 (by decide))
      refine s_ret (d_intS T.b_int (d_v 2 rfl) hi (Nat.le_trans h4 (by decide))) ?_
      show rO K (fun n : Nat => Dt.int (n : Nat)) (numW x) = Res.ok _
      unfold numW
      rw [if_neg h1']
      rfl
def pSignA (K : PySem.W.Frag) (_ : Hp) (ds : List Dt) (r : Res) : Prop := ∃ (ws : List Str) (i : Nat), ds = [wsD ws, .int (i : Nat)] ∧ Short ws ∧ r = rO K (fun c : Nat => .str (sg c)) (signAt ws i)
theorem ok_sign_at (T : Txt K mg) : Cal P w K mg base (L2N.CX P w) 3 "sign_at" (spR (pSignA K)) := by
  obtain ⟨f, fd, a⟩ := T.d_sign_at
  have hN := ok_number_at (P := P) (w := w) (base := base) T
  refine a.cal (fn_X a.fn sc_sign_at (fun F ds r h => ?_) (fun X A B Bf hr F ds r h => ?_))
  · obtain ⟨_, _, rfl, _⟩ := h; rfl
  obtain ⟨ws, i, rfl, hs, rfl⟩ := h
  unfold signAt
  obtain ⟨tk, hv⟩ := T.v_SIGNS
  cases hw : G.numAt ws i with
  | none =>
    refine s_asgM 2 (call_err hN hr (a_cons (d_v 0 rfl) (a_one (d_v 1 rfl))) (fun F1 _ => ⟨ws, i, rfl, hs, by rw [hw]; rfl⟩)) (fun d m' h => nomatch h) (fun C m' h => ?_)
    cases h
    rfl
  | some n =>
    refine s_asg 2 (call_ok hN hr (a_cons (d_v 0 rfl) (a_one (d_v 1 rfl))) (fun F1 _ => ⟨ws, i, rfl, hs, by rw [hw]; rfl⟩)) ?_
    have el : signsS.cps.toList = codes := rfl
    refine s_setLc1 3 4 (l := signsS.cps.toList) (g0 := fun c => .str (sg c)) (fun c => decide (c = n)) (fun c => .str (sg c)) (i_str (d_gstr hv)) rfl (fun c hc X' B' => ?_) (fun c hc _ X' B' => d_v 4 rfl) (by decide +kernel) ?_
    · refine (t_eq (d_ord T.b_ord (d_v 4 rfl)) (d_v 2 rfl)).to ?_
      show decide (((c : Nat) : Int) = (n : Nat)) = decide (c = n)
      rw [decide_eq_decide]
      omega
    show SD X F _ ⟨[_, _, _, some (.lst ((codes.filter fun c => decide (c = n)).map fun c => Dt.str (sg c))), _], _⟩ _
    by_cases hn : n ∈ codes
    · obtain ⟨rest, hrest⟩ : ∃ rest, codes.filter (fun c => decide (c = n)) = n :: rest := by
        have hm : n ∈ codes.filter (fun c => decide (c = n)) := List.mem_filter.mpr ⟨hn, decide_eq_true rfl⟩
        cases e : codes.filter (fun c => decide (c = n)) with
        | nil => rw [e] at hm; cases hm
        | cons x r =>
          have hx : x ∈ codes.filter (fun c => decide (c = n)) := by rw [e]; exact List.mem_cons_self
          have : x = n := of_decide_eq_true (List.mem_filter.mp hx).2
          exact ⟨r, by rw [this]⟩
      rw [hrest]
      refine s_no ((t_eq (d_lenL T.b_len (d_v 3 rfl)) d_int).to (k' := false) (decide_eq_false (by simp only [List.length_map, List.length_cons]; omega))) ?_
      refine s_ret (d_ixL (d_v 3 rfl) d_int at0) ?_
      show rO K (fun c : Nat => Dt.str (sg c)) ((some n).bind fun n => if n ∈ codes then some n else none) = Res.ok _
      simp only [Option.bind_some, if_pos hn]
      rfl
    · have hrest : codes.filter (fun c => decide (c = n)) = [] := by
        refine List.eq_nil_iff_forall_not_mem.mpr fun x hx => ?_
        have h1 := List.mem_filter.mp hx
        have : x = n := of_decide_eq_true h1.2
        exact hn (this ▸ h1.1)
      rw [hrest]
      refine s_when (k := true) ((t_eq (d_lenL T.b_len (d_v 3 rfl)) d_int).to rfl) (fun _ => ?_) (fun h => nomatch h)
      refine s_raise T.e_NoNotes ?_
      show rO K (fun c : Nat => Dt.str (sg c)) ((some n).bind fun n => if n ∈ codes then some n else none) = Res.err _
      simp only [Option.bind_some, if_neg hn]
      rfl
def leafD (o : Option (Part × Nat)) : Dt := match o with
  | some (p, j) => .tup [p.dt, .int (j : Nat)]
  | none => .non
def pLeafA (K : PySem.W.Frag) (_ : Hp) (ds : List Dt) (r : Res) : Prop := ∃ (ws : List Str) (i : Nat), ds = [wsD ws, .int (i : Nat)] ∧ Short ws ∧ r = rO K leafD (leafAt ws i)
theorem ok_leaf_at (T : Txt K mg) : Cal P w K mg base (L2N.CX P w) 4 "leaf_at" (spR (pLeafA K)) := by
  obtain ⟨f, fd, a⟩ := T.d_leaf_at
  have hW := ok_word_at (P := P) (w := w) (base := base) T
  have hS := ok_sign_at (P := P) (w := w) (base := base) T
  refine a.cal (fn_X a.fn sc_leaf_at (fun F ds r h => ?_) (fun X A B Bf hr F ds r h => ?_))
  · obtain ⟨_, _, rfl, _⟩ := h; rfl
  obtain ⟨ws, i, rfl, hs, rfl⟩ := h
  unfold leafAt
  have ad : ∀ k : Nat, ((i : Nat) : Int) + (k : Nat) = ((i + k : Nat) : Int) := fun k => by omega
  cases hw : wordAt ws i with
  | none =>
    refine s_asgM 2 (call_err hW (hr.mono (by decide)) (a_cons (d_v 0 rfl) (a_one (d_v 1 rfl))) (fun F1 _ => ⟨ws, i, rfl, by rw [hw]; rfl⟩)) (fun d m' h => nomatch h) (fun C m' h => ?_)
    cases h
    rfl
  | some x =>
    refine s_asg 2 (call_ok hW (hr.mono (by decide)) (a_cons (d_v 0 rfl) (a_one (d_v 1 rfl))) (fun F1 _ => ⟨ws, i, rfl, by rw [hw]; rfl⟩)) ?_
    simp only [Option.bind_some]
    refine s_when (t_eq (d_v 2 rfl) d_str) (fun h1 => ?_) (fun h1 => ?_)
    · have h1' : x = ("any" : Str) := of_decide_eq_true h1
      rw [if_pos h1']
      refine s_ret (d_tup (a_cons (d_tup (a_one d_str)) (a_one ((d_add (d_v 1 rfl) d_int).to (d' := .int ((i + 1 : Nat) : Int)) (by rw [← ad 1]; rfl))))) ?_
      show Res.ok (Dt.tup [Part.any.dt, _]) = Res.ok _
      rw [Part.dt]
    have h1' : ¬ x = ("any" : Str) := of_decide_eq_false h1
    rw [if_neg h1']
    refine s_when (t_eq (d_v 2 rfl) d_str) (fun h2 => ?_) (fun h2 => ?_)
    · have h2' : x = ("sign" : Str) := of_decide_eq_true h2
      rw [if_pos h2']
      cases hg : signAt ws (i + 1) with
      | none =>
        refine s_retM (m_tupX (ax_here (m_tupX (ax_next d_str (ax_here (call_err hS hr (a_cons (d_v 0 rfl) (a_one ((d_add (d_v 1 rfl) d_int).to (d' := .int ((i + 1 : Nat) : Int)) (by rw [← ad 1]; rfl)))) (fun F1 _ => ⟨ws, i + 1, rfl, hs, by rw [hg]; rfl⟩))))))) (fun d m' h => nomatch h) (fun C m' h => ?_)
        cases h
        rfl
      | some c =>
        refine s_ret (d_tup (a_cons (d_tup (a_cons d_str (a_one (call_ok hS hr (a_cons (d_v 0 rfl) (a_one ((d_add (d_v 1 rfl) d_int).to (d' := .int ((i + 1 : Nat) : Int)) (by rw [← ad 1]; rfl)))) (fun F1 _ => ⟨ws, i + 1, rfl, hs, by rw [hg]; rfl⟩))))) (a_one ((d_add (d_v 1 rfl) d_int).to (d' := .int ((i + 2 : Nat) : Int)) (by rw [← ad 2]; rfl))))) ?_
        show Res.ok (Dt.tup [(Part.sign c).dt, _]) = Res.ok _
        rw [Part.dt]
    have h2' : ¬ x = ("sign" : Str) := of_decide_eq_false h2
    rw [if_neg h2']
    refine s_when (t_eq (d_v 2 rfl) d_str) (fun h3 => ?_) (fun h3 => ?_)
    · have h3' : x = ("span" : Str) := of_decide_eq_true h3
      rw [if_pos h3']
      cases hg : signAt ws (i + 1) with
      | none =>
        refine s_retM (m_tupX (ax_here (m_tupX (ax_next d_str (ax_here (call_err hS hr (a_cons (d_v 0 rfl) (a_one ((d_add (d_v 1 rfl) d_int).to (d' := .int ((i + 1 : Nat) : Int)) (by rw [← ad 1]; rfl)))) (fun F1 _ => ⟨ws, i + 1, rfl, hs, by rw [hg]; rfl⟩))))))) (fun d m' h => nomatch h) (fun C m' h => ?_)
        cases h
        rfl
      | some c =>
        cases hg2 : signAt ws (i + 2) with
        | none =>
          refine s_retM (m_tupX (ax_here (m_tupX (ax_next d_str (ax_next (call_ok hS hr (a_cons (d_v 0 rfl) (a_one ((d_add (d_v 1 rfl) d_int).to (d' := .int ((i + 1 : Nat) : Int)) (by rw [← ad 1]; rfl)))) (fun F1 _ => ⟨ws, i + 1, rfl, hs, by rw [hg]; rfl⟩)) (ax_here (call_err hS hr (a_cons (d_v 0 rfl) (a_one ((d_add (d_v 1 rfl) d_int).to (d' := .int ((i + 2 : Nat) : Int)) (by rw [← ad 2]; rfl)))) (fun F1 _ => ⟨ws, i + 2, rfl, hs, by rw [hg2]; rfl⟩)))))))) (fun d m' h => nomatch h) (fun C m' h => ?_)
          cases h
          rfl
        | some b =>
          refine s_ret (d_tup (a_cons (d_tup (a_cons d_str (a_cons (call_ok hS hr (a_cons (d_v 0 rfl) (a_one ((d_add (d_v 1 rfl) d_int).to (d' := .int ((i + 1 : Nat) : Int)) (by rw [← ad 1]; rfl)))) (fun F1 _ => ⟨ws, i + 1, rfl, hs, by rw [hg]; rfl⟩)) (a_one (call_ok hS hr (a_cons (d_v 0 rfl) (a_one ((d_add (d_v 1 rfl) d_int).to (d' := .int ((i + 2 : Nat) : Int)) (by rw [← ad 2]; rfl)))) (fun F1 _ => ⟨ws, i + 2, rfl, hs, by rw [hg2]; rfl⟩)))))) (a_one ((d_add (d_v 1 rfl) d_int).to (d' := .int ((i + 3 : Nat) : Int)) (by rw [← ad 3]; rfl))))) ?_
          show Res.ok (Dt.tup [(Part.span c b).dt, _]) = Res.ok _
          rw [Part.dt]
    have h3' : ¬ x = ("span" : Str) := of_decide_eq_false h3
    rw [if_neg h3']
    refine s_when (t_eq (d_v 2 rfl) d_str) (fun h4 => ?_) (fun h4 => ?_)
    · have h4' : x = ("rule" : Str) := of_decide_eq_true h4
      rw [if_pos h4']
      cases hg : wordAt ws (i + 1) with
      | none =>
        refine s_retM (m_tupX (ax_here (m_tupX (ax_next d_str (ax_here (call_err hW (hr.mono (by decide)) (a_cons (d_v 0 rfl) (a_one ((d_add (d_v 1 rfl) d_int).to (d' := .int ((i + 1 : Nat) : Int)) (by rw [← ad 1]; rfl)))) (fun F1 _ => ⟨ws, i + 1, rfl, by rw [hg]; rfl⟩))))))) (fun d m' h => nomatch h) (fun C m' h => ?_)
        cases h
        rfl
      | some s =>
        refine s_ret (d_tup (a_cons (d_tup (a_cons d_str (a_one (call_ok hW (hr.mono (by decide)) (a_cons (d_v 0 rfl) (a_one ((d_add (d_v 1 rfl) d_int).to (d' := .int ((i + 1 : Nat) : Int)) (by rw [← ad 1]; rfl)))) (fun F1 _ => ⟨ws, i + 1, rfl, by rw [hg]; rfl⟩))))) (a_one ((d_add (d_v 1 rfl) d_int).to (d' := .int ((i + 2 : Nat) : Int)) (by rw [← ad 2]; rfl))))) ?_
        show Res.ok (Dt.tup [(Part.rule s).dt, _]) = Res.ok _
        rw [Part.dt]
    have h4' : ¬ x = ("rule" : Str) := of_decide_eq_false h4
    rw [if_neg h4']
    exact s_ret d_non rfl
end
end Law

set_option Elab.async false
set_option linter.all false
set_option maxRecDepth 100000
set_option maxHeartbeats 1000000
/-! notes.py: reading a part back. -/
namespace G
open PySem PySem.Spec PyProof.Rows L2
/-! bounds -/
theorem digits_lt : ∀ (cs : List Nat) (acc : Nat), (∀ c ∈ cs, 48 ≤ c ∧ c ≤ 57) → cs.foldl (fun acc c => acc * 10 + (c - 48)) acc < (acc + 1) * 10 ^ cs.length
  | [], acc, _ => by simp
  | c :: cs, acc, h => by
    have hc := h c List.mem_cons_self
    have ih := digits_lt cs (acc * 10 + (c - 48)) fun x hx => h x (List.mem_cons_of_mem _ hx)
    rw [List.foldl_cons, List.length_cons, Nat.pow_succ, Nat.mul_comm (10 ^ cs.length) 10, ← Nat.mul_assoc]
    exact Nat.lt_of_lt_of_le ih (Nat.mul_le_mul_right _ (by omega))
theorem numW_lt {x : Str} {n : Nat} (h : numW x = some n) : n < 10000 := by
  unfold numW at h
  split at h
  · cases h
  · rename_i h1
    cases h
    rw [not_or, not_or] at h1
    have hf : ∀ c ∈ x.cps.toList, 48 ≤ c ∧ c ≤ 57 := fun c hc => by
      have h2 : isFig x = true := by
        cases e : isFig x with
        | true => rfl
        | false => exact absurd e h1.2.1
      have h3 := of_decide_eq_true (List.all_eq_true.mp h2 c hc)
      have e : digitsS.cps.toList = (List.range 10).map (48 + ·) := by decide +kernel
      rw [e] at h3
      obtain ⟨k, hk, rfl⟩ := List.mem_map.mp h3
      have := List.mem_range.mp hk
      omega
    have h2 := digits_lt x.cps.toList 0 hf
    have h3 : x.cps.toList.length ≤ 4 := by
      rw [Array.length_toList]
      exact Nat.le_of_not_lt h1.1
    refine Nat.lt_of_lt_of_le h2 ?_
    rw [Nat.zero_add, Nat.one_mul]
    exact Nat.le_trans (Nat.pow_le_pow_right (by decide) h3) (by decide)
theorem numAt_lt4 {ws : List Str} {i n : Nat} (h : G.numAt ws i = some n) : n < 10000 := by
  unfold G.numAt at h
  obtain ⟨w, _, h⟩ := Option.bind_eq_some_iff.mp h
  exact numW_lt h
/-- what opens -/
def OpOk (f : Op) : Prop := ((f.1 = ("many" : Str) ∨ f.1 = ("not" : Str)) ∧ f.2.1 = 1) ∨ (f.1 ≠ ("many" : Str) ∧ f.1 ≠ ("not" : Str) ∧ (f.1 = ("row" : Str) ∨ f.1 = ("or" : Str)))
theorem openAt_ok {ws : List Str} {i j : Nat} {f : Op} (h : openAt ws i = some (f, j)) : OpOk f ∧ f.2.2 = [] ∧ f.2.1 < 10000 := by
  unfold openAt at h
  obtain ⟨w, _, h⟩ := Option.bind_eq_some_iff.mp h
  split at h
  · rename_i h1
    cases h
    exact ⟨.inl ⟨h1, rfl⟩, rfl, by show 1 < 10000; decide⟩
  · rename_i h1
    split at h
    · rename_i h2
      obtain ⟨n, hn, h⟩ := Option.map_eq_some_iff.mp h
      cases h
      rw [not_or] at h1
      exact ⟨.inr ⟨h1.1, h1.2, h2⟩, rfl, numAt_lt4 hn⟩
    · cases h
/-- open parts in a row: all but the last one are as they should be, all but the first one wait for one more -/
def okL : List Op → Prop
  | f :: g :: r => (OpOk f ∧ f.2.1 < 10000 ∧ f.2.2.length ≤ f.2.1) ∧ g.2.2.length < g.2.1 ∧ okL (g :: r)
  | [f] => f.2.1 = 1 ∧ f.2.2.length ≤ f.2.1
  | [] => False
theorem okL_le : ∀ {f : Op} {r : List Op}, okL (f :: r) → f.2.2.length ≤ f.2.1 ∧ f.2.1 < 10000
  | f, [], h => ⟨h.2, by rw [h.1]; decide⟩
  | f, g :: r, h => ⟨h.1.2.2, h.1.2.1⟩
end G
namespace Law
open PySem PySem.Spec PyProof.Rows L2 G
section
variable {P : Program} {w : World} {K : PySem.W.Frag} {mg : Str → Option Value} {base : Heap}
abbrev opD (f : Op) (q : Addr) : Dt := .lst [.str f.1, .int (f.2.1 : Nat), .ref q]
def pOpen (K : PySem.W.Frag) (_ : Hp) (ds : List Dt) (m : Mm) (R : Rem → Prop) : Prop := ∃ (ws : List Str) (i : Nat), ds = [wsD ws, .int (i : Nat)] ∧ Short ws ∧
  R = fun z => (openAt ws i = none ∧ z = .err (noN K) m) ∨ ∃ f j q1 q2, openAt ws i = some (f, j) ∧ q2 ∉ m.ads ∧ q1 ∉ (q2 :: m.ads) ∧ z = .ok (.tup [.ref q1, .int (j : Nat)]) ((q1, .lst [.str f.1, .int (f.2.1 : Nat), .ref q2]) :: (q2, .lst []) :: m)
theorem ok_opened_at (T : Txt K mg) : Cal P w K mg base (L2N.CX P w) 3 "opened_at" (spM (pOpen K)) := by
  obtain ⟨f, fd, a⟩ := T.d_opened_at
  have hW := ok_word_at (P := P) (w := w) (base := base) T
  have hN := ok_number_at (P := P) (w := w) (base := base) T
  refine a.cal (fn_M a.fn sc_opened_at (fun F ds m R h => ?_) (fun X A B Bf hr F ds m R h => ?_))
  · obtain ⟨_, _, rfl, _⟩ := h; rfl
  obtain ⟨ws, i, rfl, hs, rfl⟩ := h
  have ad : ∀ k : Nat, ((i : Nat) : Int) + (k : Nat) = ((i + k : Nat) : Int) := fun k => by omega
  have none' : openAt ws i = none → ∀ {m1 : Mm}, m1 = m → ∃ m', SubP m' m1 ∧ ((openAt ws i = none ∧ Rem.err (noN K) m' = .err (noN K) m) ∨ ∃ f j q1 q2, openAt ws i = some (f, j) ∧ q2 ∉ m.ads ∧ q1 ∉ (q2 :: m.ads) ∧ Rem.err (noN K) m' = .ok (.tup [.ref q1, .int (j : Nat)]) ((q1, .lst [.str f.1, .int (f.2.1 : Nat), .ref q2]) :: (q2, .lst []) :: m)) := fun h m1 hm => ⟨m, by subst hm; exact .refl _, .inl ⟨h, rfl⟩⟩
  cases hw : wordAt ws i with
  | none =>
    have e : openAt ws i = none := by unfold openAt; rw [hw]; rfl
    refine s_asgM 2 (call_err hW (hr.mono (by decide)) (a_cons (d_v 0 rfl) (a_one (d_v 1 rfl))) (fun F1 _ => ⟨ws, i, rfl, by rw [hw]; rfl⟩)) (fun d m' h => nomatch h) (fun C m' h => ?_)
    cases h
    exact none' e rfl
  | some x =>
    refine s_asg 2 (call_ok hW (hr.mono (by decide)) (a_cons (d_v 0 rfl) (a_one (d_v 1 rfl))) (fun F1 _ => ⟨ws, i, rfl, by rw [hw]; rfl⟩)) ?_
    refine s_when (k := decide (x = ("many" : Str) ∨ x = ("not" : Str))) (t_w ((w_or (t_eq (d_v 2 rfl) d_str) (fun _ => w_or1 (t_eq (d_v 2 rfl) d_str))).to (by simp [sameD]))) (fun h1 => ?_) (fun h1 => ?_)
    · have h1' := of_decide_eq_true h1
      have e : openAt ws i = some ((x, 1, []), i + 1) := by unfold openAt; rw [hw]; exact if_pos h1'
      refine s_retM (R := fun z => ∃ q1 q2, q2 ∉ m.ads ∧ q1 ∉ (q2 :: m.ads) ∧ z = .ok (.tup [.ref q1, .int ((i + 1 : Nat) : Int)]) ((q1, .lst [.str x, .int ((1 : Nat) : Int), .ref q2]) :: (q2, .lst []) :: m))
        ((m_tupM (R := fun ds m' => ∃ q1 q2, q2 ∉ m.ads ∧ q1 ∉ (q2 :: m.ads) ∧ ds = [.ref q1, .int ((i + 1 : Nat) : Int)] ∧ m' = (q1, Md.lst [.str x, .int ((1 : Nat) : Int), .ref q2]) :: (q2, .lst []) :: m)
          (am_cons (m_lstN (R := fun ds m' => ∃ q2, q2 ∉ m.ads ∧ ds = [.str x, .int ((1 : Nat) : Int), .ref q2] ∧ m' = (q2, Md.lst []) :: m)
            (am_cons (d_v 2 rfl).em (fun C m' h => nomatch h) (fun d m' h => by
              cases h
              exact am_cons d_int.em (fun C m' h => nomatch h) (fun d m' h => by
                cases h
                exact am_cons (m_lst a_nil) (fun C m' h => by obtain ⟨_, _, h⟩ := h; cases h) (fun d m' h => by
                  obtain ⟨q2, hq2, h⟩ := h
                  cases h
                  exact am_end ⟨q2, hq2, rfl, rfl⟩)))) (fun ds m' h => by obtain ⟨_, _, rfl, _⟩ := h; exact (by simp)))
            (fun C m' h => by obtain ⟨_, _, _, _, _, h⟩ := h; cases h) (fun d m' h => by
              obtain ⟨ds, m2, ⟨q2, hq2, rfl, rfl⟩, q1, hq1, h⟩ := h
              cases h
              exact am_cons ((d_add (d_v 1 rfl) d_int).to (d' := .int ((i + 1 : Nat) : Int)) (by rw [← ad 1]; rfl)).em (fun C m' h => nomatch h) (fun d m' h => by
                cases h
                exact am_end ⟨q1, q2, hq2, hq1, rfl, rfl⟩))) (fun ds m' h => by obtain ⟨_, _, _, _, rfl, _⟩ := h; exact (by simp))).mono fun z h => by
          obtain ⟨ds, m', ⟨q1, q2, h1, h2, rfl, rfl⟩, rfl⟩ := h
          exact ⟨q1, q2, h1, h2, rfl⟩) (fun d m' h => ?_) (fun C m' h => ?_)
      · obtain ⟨q1, q2, h1, h2, h⟩ := h
        cases h
        exact ⟨_, .refl _, .inr ⟨(x, 1, []), i + 1, q1, q2, e, h1, h2, rfl⟩⟩
      · obtain ⟨_, _, _, _, h⟩ := h; cases h
    have h1' := of_decide_eq_false h1
    refine s_when (k := decide (x = ("row" : Str) ∨ x = ("or" : Str))) (t_w ((w_or (t_eq (d_v 2 rfl) d_str) (fun _ => w_or1 (t_eq (d_v 2 rfl) d_str))).to (by simp [sameD]))) (fun h2 => ?_) (fun h2 => ?_)
    · have h2' := of_decide_eq_true h2
      cases hn : G.numAt ws (i + 1) with
      | none =>
        have e : openAt ws i = none := by
          unfold openAt
          rw [hw]
          simp only [Option.bind_some, if_neg h1', if_pos h2', hn]
          rfl
        refine s_retM (m_tupX (ax_here (m_lstX (ax_next (d_v 2 rfl) (ax_here (call_err hN hr (a_cons (d_v 0 rfl) (a_one ((d_add (d_v 1 rfl) d_int).to (d' := .int ((i + 1 : Nat) : Int)) (by rw [← ad 1]; rfl)))) (fun F1 _ => ⟨ws, i + 1, rfl, hs, by rw [hn]; rfl⟩))))))) (fun d m' h => nomatch h) (fun C m' h => ?_)
        cases h
        exact none' e rfl
      | some n =>
        have e : openAt ws i = some ((x, n, []), i + 2) := by
          unfold openAt
          rw [hw]
          simp only [Option.bind_some, if_neg h1', if_pos h2', hn]
          rfl
        refine s_retM (R := fun z => ∃ q1 q2, q2 ∉ m.ads ∧ q1 ∉ (q2 :: m.ads) ∧ z = .ok (.tup [.ref q1, .int ((i + 2 : Nat) : Int)]) ((q1, .lst [.str x, .int ((n : Nat) : Int), .ref q2]) :: (q2, .lst []) :: m))
          ((m_tupM (R := fun ds m' => ∃ q1 q2, q2 ∉ m.ads ∧ q1 ∉ (q2 :: m.ads) ∧ ds = [.ref q1, .int ((i + 2 : Nat) : Int)] ∧ m' = (q1, Md.lst [.str x, .int ((n : Nat) : Int), .ref q2]) :: (q2, .lst []) :: m)
            (am_cons (m_lstN (R := fun ds m' => ∃ q2, q2 ∉ m.ads ∧ ds = [.str x, .int ((n : Nat) : Int), .ref q2] ∧ m' = (q2, Md.lst []) :: m)
              (am_cons (d_v 2 rfl).em (fun C m' h => nomatch h) (fun d m' h => by
                cases h
                exact am_cons (EvD.em (call_ok hN hr (a_cons (d_v 0 rfl) (a_one ((d_add (d_v 1 rfl) d_int).to (d' := .int ((i + 1 : Nat) : Int)) (by rw [← ad 1]; rfl)))) (fun F1 _ => ⟨ws, i + 1, rfl, hs, by rw [hn]; rfl⟩))) (fun C m' h => nomatch h) (fun d m' h => by
                  cases h
                  exact am_cons (m_lst a_nil) (fun C m' h => by obtain ⟨_, _, h⟩ := h; cases h) (fun d m' h => by
                    obtain ⟨q2, hq2, h⟩ := h
                    cases h
                    exact am_end ⟨q2, hq2, rfl, rfl⟩)))) (fun ds m' h => by obtain ⟨_, _, rfl, _⟩ := h; exact (by simp)))
              (fun C m' h => by obtain ⟨_, _, _, _, _, h⟩ := h; cases h) (fun d m' h => by
                obtain ⟨ds, m2, ⟨q2, hq2, rfl, rfl⟩, q1, hq1, h⟩ := h
                cases h
                exact am_cons ((d_add (d_v 1 rfl) d_int).to (d' := .int ((i + 2 : Nat) : Int)) (by rw [← ad 2]; rfl)).em (fun C m' h => nomatch h) (fun d m' h => by
                  cases h
                  exact am_end ⟨q1, q2, hq2, hq1, rfl, rfl⟩))) (fun ds m' h => by obtain ⟨_, _, _, _, rfl, _⟩ := h; exact (by simp))).mono fun z h => by
            obtain ⟨ds, m', ⟨q1, q2, h1, h2, rfl, rfl⟩, rfl⟩ := h
            exact ⟨q1, q2, h1, h2, rfl⟩) (fun d m' h => ?_) (fun C m' h => ?_)
        · obtain ⟨q1, q2, h1, h2, h⟩ := h
          cases h
          exact ⟨_, .refl _, .inr ⟨(x, n, []), i + 2, q1, q2, e, h1, h2, rfl⟩⟩
        · obtain ⟨_, _, _, _, h⟩ := h; cases h
    · have h2' := of_decide_eq_false h2
      have e : openAt ws i = none := by
        unfold openAt
        rw [hw]
        simp only [Option.bind_some, if_neg h1', if_neg h2']
      refine s_raise T.e_NoNotes ?_
      exact none' e rfl
def pClosed (K : PySem.W.Frag) (_ : Hp) (ds : List Dt) (m : Mm) (R : Rem → Prop) : Prop := ∃ (q1 q2 : Addr) (f : Op) (j1 j2 : Nat), ds = [.ref q1] ∧ m[j1]? = some (q1, .lst [.str f.1, .int (f.2.1 : Nat), .ref q2]) ∧ m[j2]? = some (q2, .lst (f.2.2.map Part.dt)) ∧ OpOk f ∧ f.2.2.length = f.2.1 ∧ R = fun z => z = .ok (closedP f).dt m
theorem ok_closed (T : Txt K mg) : Cal P w K mg base (L2N.CX P w) 1 "closed" (spM (pClosed K)) := by
  obtain ⟨f, fd, a⟩ := T.d_closed
  refine a.cal (fn_M a.fn sc_closed (fun F ds m R h => ?_) (fun X A B Bf hr F ds m R h => ?_))
  · obtain ⟨_, _, _, _, _, rfl, _⟩ := h; rfl
  obtain ⟨q1, q2, ⟨x, n, ps⟩, j1, j2, rfl, h1, h2, hok, hl, rfl⟩ := h
  dsimp only at h1 h2 hl
  refine s_when (k := decide (x = ("many" : Str) ∨ x = ("not" : Str))) (t_w ((w_or (t_eq (d_ixC j1 (d_v 0 rfl) d_int h1 at0) d_str) (fun _ => w_or1 (t_eq (d_ixC j1 (d_v 0 rfl) d_int h1 at0) d_str))).to (by simp [sameD]))) (fun h3 => ?_) (fun h3 => ?_)
  · have h3' := of_decide_eq_true h3
    have hn : n = 1 := by
      rcases hok with ⟨_, h⟩ | ⟨g1, g2, _⟩
      · exact h
      · rcases h3' with h | h
        · exact absurd h g1
        · exact absurd h g2
    rw [hn] at hl
    obtain ⟨p, rfl⟩ : ∃ p, ps = [p] := by
      match ps, hl with
      | [p], _ => exact ⟨p, rfl⟩
    refine s_ret (d := (closedP (x, n, [p])).dt) ((d_tup (a_cons (d_ixC j1 (d_v 0 rfl) d_int h1 at0) (a_one (d_ixC j2 (d_ixC j1 (d_v 0 rfl) d_int h1 at2) d_int h2 at0)))).to ?_) ⟨m, .refl m, rfl⟩
    unfold closedP
    rcases h3' with rfl | rfl
    · simp [Part.dt]
    · simp [Part.dt]
  · have h3' := of_decide_eq_false h3
    rw [not_or] at h3'
    have hw : x = ("row" : Str) ∨ x = ("or" : Str) := by
      rcases hok with ⟨h, _⟩ | ⟨_, _, h⟩
      · rcases h with h | h
        · exact absurd h h3'.1
        · exact absurd h h3'.2
      · exact h
    refine s_ret (d := (closedP (x, n, ps)).dt) ((d_tup (a_cons (d_ixC j1 (d_v 0 rfl) d_int h1 at0) (a_one (d_tupC j2 T.b_tuple (d_ixC j1 (d_v 0 rfl) d_int h1 at2) h2)))).to ?_) ⟨m, .refl m, rfl⟩
    unfold closedP
    rcases hw with rfl | rfl
    · simp [Part.dt, Part.dts_map]
    · simp [Part.dt, Part.dts_map]
end
end Law

set_option Elab.async false
set_option linter.all false
set_option maxRecDepth 100000
set_option maxHeartbeats 1000000
/-! notes.py: part_of, grammar_of. -/
namespace G
open PySem PySem.Spec PyProof.Rows L2
/-- an open part with the addresses of its lists -/
abbrev Fo := Addr × Addr × Op
abbrev opsF (L : List Fo) : List Op := L.map (·.2.2)
def cellF (x : Fo) : Mm := [(x.1, .lst [.str x.2.2.1, .int (x.2.2.2.1 : Nat), .ref x.2.1]), (x.2.1, .lst (x.2.2.2.2.map Part.dt))]
def memF (L : List Fo) : Mm := L.flatMap cellF
theorem memF_cons (x : Fo) (L : List Fo) : memF (x :: L) = (x.1, .lst [.str x.2.2.1, .int (x.2.2.2.1 : Nat), .ref x.2.1]) :: (x.2.1, .lst (x.2.2.2.2.map Part.dt)) :: memF L := rfl
theorem memF_len (L : List Fo) : (memF L).length = 2 * L.length := by
  induction L with
  | nil => rfl
  | cons x L ih => rw [memF_cons, List.length_cons, List.length_cons, ih, List.length_cons]; omega
abbrev refsF (L : List Fo) : List Dt := (L.map fun x => Dt.ref x.1).reverse
theorem refsF_cons (x : Fo) (L : List Fo) : refsF (x :: L) = refsF L ++ [.ref x.1] := by simp [refsF]
abbrev memQ (L : List Fo) (qf : Addr) : Mm := memF L ++ [(qf, .lst (refsF L))]
theorem memQ_at (L : List Fo) (qf : Addr) (M : Mm) : (memF L ++ (qf, Md.lst (refsF L)) :: M)[2 * L.length]? = some (qf, .lst (refsF L)) := by
  rw [List.getElem?_append_right (by rw [memF_len]; exact Nat.le_refl _), memF_len, Nat.sub_self]
  rfl
theorem memQ_set (L : List Fo) (qf : Addr) (c : Md) : (memF L ++ [(qf, Md.lst (refsF L))]).set (2 * L.length) (qf, c) = memF L ++ [(qf, c)] := by
  rw [List.set_append_right _ _ (by rw [memF_len]; exact Nat.le_refl _), memF_len, Nat.sub_self]
  rfl
theorem refs_last (x : Fo) (L : List Fo) : atI (refsF (x :: L)) (-1) = some (.ref x.1) := by
  rw [refsF_cons]
  exact atI_last' (by simp) (by simp)
theorem refs_one (x : Fo) : atI (refsF [x]) 0 = some (.ref x.1) := atI_nat (j := 0) rfl
theorem refs_len (L : List Fo) : (refsF L).length = L.length := by simp [refsF]
/-- a part that came, in the top one -/
def pushL (p : Part) : List Fo → List Fo
  | (a, b, w, n, ps) :: r => (a, b, w, n, ps ++ [p]) :: r
  | [] => []
theorem pushL_ops (p : Part) (L : List Fo) : opsF (pushL p L) = pushF p (opsF L) := by cases L <;> rfl
theorem pushL_len (p : Part) (L : List Fo) : (pushL p L).length = L.length := by cases L <;> rfl
theorem pushL_refs (p : Part) (L : List Fo) : refsF (pushL p L) = refsF L := by cases L <;> rfl
theorem memF_push (p : Part) (x : Fo) (L : List Fo) : (memF (x :: L)).set 1 (x.2.1, .lst (x.2.2.2.2.map Part.dt ++ [p.dt])) = memF (pushL p (x :: L)) := by
  obtain ⟨a, b, w, n, ps⟩ := x
  show _ = (a, Md.lst [.str w, .int (n : Nat), .ref b]) :: (b, .lst ((ps ++ [p]).map Part.dt)) :: memF L
  rw [List.map_append]
  rfl
/-- open parts behind a push: the top one may be full -/
theorem okL_push {p : Part} {f : Op} {r : List Op} (h : okL (f :: r)) (hf : f.2.2.length < f.2.1) : okL (pushF p (f :: r)) := by
  obtain ⟨w, n, ps⟩ := f
  dsimp only at hf
  cases r with
  | nil =>
    refine ⟨h.1, ?_⟩
    show (ps ++ [p]).length ≤ n
    rw [List.length_append, List.length_singleton]
    omega
  | cons g r =>
    obtain ⟨⟨h1, h2, h3⟩, h4, h5⟩ := h
    refine ⟨⟨h1, h2, ?_⟩, h4, h5⟩
    show (ps ++ [p]).length ≤ n
    rw [List.length_append, List.length_singleton]
    omega
theorem okL_tail {f g : Op} {r : List Op} (h : okL (f :: g :: r)) : okL (g :: r) := h.2.2
theorem memX_at (L : List Fo) (qf : Addr) (c : Md) (M : Mm) : (memF L ++ (qf, c) :: M)[2 * L.length]? = some (qf, c) := by
  rw [List.getElem?_append_right (by rw [memF_len]; exact Nat.le_refl _), memF_len, Nat.sub_self]
  rfl
theorem memQ_push (p : Part) (x : Fo) (L : List Fo) (qf : Addr) : (memQ (x :: L) qf).set 1 (x.2.1, .lst (x.2.2.2.2.map Part.dt ++ [p.dt])) = memQ (pushL p (x :: L)) qf := by
  unfold memQ
  rw [List.set_append_left _ _ (by rw [memF_len, List.length_cons]; omega), memF_push, pushL_refs]
def shutB : List Op → Bool
  | f :: _ :: _ => decide (f.2.2.length = f.2.1)
  | _ => false
theorem closeF_stay {st : List Op} (h : shutB st = false) : closeF st = st := by
  match st with
  | [] => rw [closeF]; intro f g r; simp
  | [f] => exact closeF_one f
  | f :: g :: r => exact closeF_open (of_decide_eq_false h)
end G
namespace Law
open PySem PySem.Spec PyProof.Rows L2 G
section
variable {P : Program} {w : World} {K : PySem.W.Frag} {mg : Str → Option Value} {base : Heap}
def pPartOf (K : PySem.W.Frag) (_ : Hp) (ds : List Dt) (r : Res) : Prop := ∃ (ws : List Str), ds = [wsD ws] ∧ Short ws ∧ r = rO K Part.dt (partOf ws)
/-- the words where the open parts stand wait for one more -/
structure WaitL (st : List Op) : Prop where
  ok : okL st
  lt : ∀ f r, st = f :: r → doneF st = false → f.2.2.length < f.2.1
theorem sz100 {n : Nat} (h : n ≤ 200000) : n < sizeLine := Nat.lt_of_le_of_lt h (by decide)
theorem ok_part_of (T : Txt K mg) : Cal P w K mg base (L2N.CX P w) 5 "part_of" (spR (pPartOf K)) := by
  obtain ⟨f, fd, a⟩ := T.d_part_of
  have hL := ok_leaf_at (P := P) (w := w) (base := base) T
  have hO := ok_opened_at (P := P) (w := w) (base := base) T
  have hC := ok_closed (P := P) (w := w) (base := base) T
  refine a.cal (fn_X a.fn sc_part_of (fun F ds r h => ?_) (fun X A B Bf hr F ds r h => ?_))
  · obtain ⟨_, rfl, _⟩ := h; rfl
  obtain ⟨ws, rfl, hs, rfl⟩ := h
  refine s_asg 1 d_int ?_
  refine s_asgM 2 (R := fun z => ∃ q1 q2 qf, z = .ok (.ref qf) [(qf, .lst [.ref q1]), (q1, .lst [.str "whole", .int ((1 : Nat) : Int), .ref q2]), (q2, .lst [])]) ((m_lstN (R := fun ds m' => ∃ q1 q2, ds = [.ref q1] ∧ m' = [(q1, Md.lst [.str "whole", .int ((1 : Nat) : Int), .ref q2]), (q2, .lst [])])
    (am_cons (m_lstN (R := fun ds m' => ∃ q2, ds = [.str "whole", .int ((1 : Nat) : Int), .ref q2] ∧ m' = [(q2, Md.lst [])])
      (am_cons d_str.em (fun C m' h => nomatch h) (fun d m' h => by
        cases h
        exact am_cons d_int.em (fun C m' h => nomatch h) (fun d m' h => by
          cases h
          exact am_cons (m_lst a_nil) (fun C m' h => by obtain ⟨_, _, h⟩ := h; cases h) (fun d m' h => by
            obtain ⟨q2, hq2, h⟩ := h
            cases h
            exact am_end ⟨q2, rfl, rfl⟩)))) (fun ds m' h => by obtain ⟨_, rfl, _⟩ := h; exact (by simp))) (fun C m' h => by obtain ⟨_, _, _, _, _, h⟩ := h; cases h) (fun d m' h => by
        obtain ⟨ds, m2, ⟨q2, rfl, rfl⟩, q1, hq1, h⟩ := h
        cases h
        exact am_end ⟨q1, q2, rfl, rfl⟩)) (fun ds m' h => by obtain ⟨_, _, rfl, _⟩ := h; exact (by simp))).mono fun z h => by
    obtain ⟨ds, m2, ⟨q1, q2, rfl, rfl⟩, qf, hqf, h⟩ := h
    exact ⟨q1, q2, qf, h⟩) (fun d m' h => ?_) (fun C m' h => ?_)
  case refine_2 => obtain ⟨_, _, _, h⟩ := h; cases h
  obtain ⟨q1, q2, qf, h⟩ := h
  cases h
  let L0 : List Fo := [(q1, q2, ("whole", 1, []))]
  suffices main : SD X F ((defBody s_part_of).drop 2) ⟨[some (wsD ws), some (.int ((0 : Nat) : Int)), some (.ref qf), none, none], memQ L0 qf⟩ (EndD (rO K Part.dt (partOf ws))) from main.pre ⟨fun _ _ h => h, .perm (List.perm_append_comm (l₁ := memF L0) (l₂ := [(qf, Md.lst (refsF L0))])), Nat.le_refl _⟩
  -- what comes behind the loop, and where something raises
  have erW : partOf ws = none → ∀ {m : Mm}, EndD (rO K Part.dt (partOf ws)) (.err (noN K) m) := fun h m => by rw [h]; rfl
  have noneP : (parseF ws ws.length 0 start0 = none) → partOf ws = none := fun h => by unfold partOf; rw [h]; rfl
  refine s_while (fun k δ => ∃ (L : List Fo) (i : Nat), k = ws.length + 1 - i ∧ i ≤ ws.length ∧ L ≠ [] ∧ L.length ≤ i + 1 ∧ WaitL (opsF L) ∧ (∃ n, ws.length - i ≤ n ∧ parseF ws n i (opsF L) = parseF ws ws.length 0 start0) ∧ δ = (⟨[some (wsD ws), some (.int (i : Nat)), some (.ref qf), none, none], memQ L qf⟩ : Sl)) ⟨_, L0, 0, rfl, Nat.zero_le _, by simp [L0], by simp [L0], ⟨⟨rfl, by show 0 ≤ 1; decide⟩, fun f r h _ => by cases h; show 0 < 1; decide⟩, ⟨ws.length, Nat.le_refl _, rfl⟩, rfl⟩ ?_
  rintro k δ ⟨L, i, rfl, hi, hne, hLl, hok, ⟨n, hn, hp⟩, rfl⟩
  obtain ⟨x, L', rfl⟩ : ∃ x L', L = x :: L' := by cases L with | nil => exact absurd rfl hne | cons x L' => exact ⟨x, L', rfl⟩
  have hq0 : (memQ (x :: L') qf)[2 * (x :: L').length]? = some (qf, .lst (refsF (x :: L'))) := memQ_at _ _ _
  refine ⟨!doneF (opsF (x :: L')), ?_, fun hd => ?_, fun hd => ?_⟩
  · refine t_w (EwD.to (w_or (t_gt (d_lenC (2 * (x :: L').length) T.b_len (d_v 2 rfl) hq0) d_int) (q := !doneF (opsF (x :: L'))) (fun h => ?_)) ?_)
    · have h1 := of_decide_eq_false h
      rw [refs_len] at h1
      have hl : L' = [] := by
        cases L' with
        | nil => rfl
        | cons y r => rw [List.length_cons, List.length_cons] at h1; omega
      subst hl
      refine w_or1 ((t_lt (d_lenC 1 T.b_len (d_ixC 0 (d_ixC 2 (d_v 2 rfl) d_int rfl (refs_one x)) d_int rfl at2) rfl) d_int).to ?_)
      rw [List.length_map]
      show decide (((x.2.2.2.2.length : Nat) : Int) < 1) = !decide (1 ≤ x.2.2.2.2.length)
      rw [← decide_not, decide_eq_decide]
      omega
    · rw [refs_len]
      cases L' with
      | nil => show (false || _) = _; rfl
      | cons y r =>
        rw [decide_eq_true (by rw [List.length_cons, List.length_cons]; omega)]
        rfl
  · -- the body
    rw [Bool.not_eq_true'] at hd
    have hnd : ∀ n', parseF ws (n' + 1) i (opsF (x :: L')) = (stepF ws i (opsF (x :: L'))).bind fun s => parseF ws n' s.1 s.2 := fun n' => by
      rw [parseF, if_neg (by rw [hd]; exact Bool.false_ne_true)]
    have hst0 : stepF ws i (opsF (x :: L')) = none → parseF ws ws.length 0 start0 = none := fun h => by
      rw [← hp]
      cases n with
      | zero => rw [parseF, if_neg (by rw [hd]; exact Bool.false_ne_true)]
      | succ n => rw [hnd, h]; rfl
    have hlt0 := hok.lt x.2.2 (opsF L') rfl hd
    -- the turns that close
    have inner : ∀ (L1 : List Fo) (j : Nat), i < j → j ≤ ws.length → L1 ≠ [] → L1.length ≤ j + 1 → okL (opsF L1) → (∃ n', ws.length - j ≤ n' ∧ parseF ws n' j (closeF (opsF L1)) = parseF ws ws.length 0 start0) → ∀ (d3 : Option Dt), SD X F (match (defBody s_part_of).getD 2 (.Pass ⟨0, 0, 0, 0⟩) with | .While _ b _ _ => b.drop 3 | _ => []) ⟨[some (wsD ws), some (.int (j : Nat)), some (.ref qf), d3, none], memQ L1 qf⟩ (Turn X F ((defBody s_part_of).drop 3) (EndD (rO K Part.dt (partOf ws))) fun δ' => ∃ k', k' < ws.length + 1 - i ∧ ∃ (L : List Fo) (i : Nat), k' = ws.length + 1 - i ∧ i ≤ ws.length ∧ L ≠ [] ∧ L.length ≤ i + 1 ∧ WaitL (opsF L) ∧ (∃ n, ws.length - i ≤ n ∧ parseF ws n i (opsF L) = parseF ws ws.length 0 start0) ∧ δ' = (⟨[some (wsD ws), some (.int (i : Nat)), some (.ref qf), none, none], memQ L qf⟩ : Sl)) := by
      intro L1 j hij hj hne1 hl1 hok1 ⟨n', hn', hp'⟩ d3
      refine SD.pre (δ := ⟨[some (wsD ws), some (.int (j : Nat)), some (.ref qf), none, none], memQ L1 qf⟩) ?_ (.cons (.cons (.cons (.consN (.consN (.mem (.refl _)))))))
      refine s_while (fun k δ => ∃ (L : List Fo), k = L.length ∧ L ≠ [] ∧ L.length ≤ j + 1 ∧ okL (opsF L) ∧ closeF (opsF L) = closeF (opsF L1) ∧ δ = (⟨[some (wsD ws), some (.int (j : Nat)), some (.ref qf), none, none], memQ L qf⟩ : Sl)) ⟨_, L1, rfl, hne1, hl1, hok1, rfl, rfl⟩ ?_
      rintro k δ ⟨L, rfl, hneL, hlL, hokL, hcl, rfl⟩
      obtain ⟨y, R, rfl⟩ : ∃ y R, L = y :: R := by cases L with | nil => exact absurd rfl hneL | cons y R => exact ⟨y, R, rfl⟩
      have hqL : (memQ (y :: R) qf)[2 * (y :: R).length]? = some (qf, .lst (refsF (y :: R))) := memQ_at _ _ _
      refine ⟨shutB (opsF (y :: R)), ?_, fun hb => ?_, fun hb => ?_⟩
      · refine t_w (EwD.to (w_and (t_gt (d_lenC (2 * (y :: R).length) T.b_len (d_v 2 rfl) hqL) d_int) (q := decide (y.2.2.2.2.length = y.2.2.2.1)) (fun _ => w_and1 ((t_eq (d_lenC 1 T.b_len (d_ixC 0 (d_ixC (2 * (y :: R).length) (d_v 2 rfl) (d_neg d_int) hqL (refs_last y R)) d_int rfl at2) rfl) (d_ixC 0 (d_ixC (2 * (y :: R).length) (d_v 2 rfl) (d_neg d_int) hqL (refs_last y R)) d_int rfl at1)).to ?_))) ?_)
        · show decide (((y.2.2.2.2.map Part.dt).length : Int) = (y.2.2.2.1 : Nat)) = _
          rw [List.length_map, decide_eq_decide]
          omega
        · rw [refs_len]
          cases R with
          | nil => rfl
          | cons z R =>
            rw [decide_eq_true (by rw [List.length_cons, List.length_cons]; omega)]
            rfl
      · -- one closes
        obtain ⟨z, R', rfl⟩ : ∃ z R', R = z :: R' := by cases R with | nil => cases hb | cons z R' => exact ⟨z, R', rfl⟩
        have hfull : y.2.2.2.2.length = y.2.2.2.1 := of_decide_eq_true hb
        have hok1' : OpOk y.2.2 := hokL.1.1
        have hz1 : z.2.2.2.2.length < z.2.2.2.1 := hokL.2.1
        have hz2 : z.2.2.2.1 < 10000 := (okL_le hokL.2.2).2
        have hpop : (memQ (y :: z :: R') qf)[2 * (y :: z :: R').length]? = some (qf, .lst (refsF (z :: R') ++ [.ref y.1])) := by rw [hqL, refsF_cons]
        refine s_asgM 4 (m_pop (2 * (y :: z :: R').length) hpop (d_v 2 rfl)) (fun d m' h => ?_) (fun C m' h => nomatch h)
        cases h
        rw [show (Sl.to ⟨[some (wsD ws), some (.int (j : Nat)), some (.ref qf), none, none], memQ (y :: z :: R') qf⟩ ((Sl.m ⟨[some (wsD ws), some (.int (j : Nat)), some (.ref qf), none, none], memQ (y :: z :: R') qf⟩).set (2 * (y :: z :: R').length) (qf, Md.lst (refsF (z :: R'))))) = ⟨[some (wsD ws), some (.int (j : Nat)), some (.ref qf), none, none], memF (y :: z :: R') ++ [(qf, Md.lst (refsF (z :: R')))]⟩ from congrArg (Sl.mk _) (memQ_set (y :: z :: R') qf _)]
        have hq2 : (memF (y :: z :: R') ++ [(qf, Md.lst (refsF (z :: R')))])[2 * (y :: z :: R').length]? = some (qf, .lst (refsF (z :: R'))) := memX_at _ _ _ _
        refine s_expM (m_append 3 (q := z.2.1) (ds := z.2.2.2.2.map Part.dt) rfl (d_ixC 2 (d_ixC (2 * (y :: z :: R').length) (d_v 2 rfl) (d_neg d_int) hq2 (refs_last z R')) d_int rfl at2) (EmD.ev (d := (closedP y.2.2).dt) (m_call hC (hr.mono (by decide)) (a_one (d_v 4 rfl)) (fun F1 h => ⟨y.1, y.2.1, y.2.2, 0, 1, rfl, rfl, rfl, hok1', hfull, rfl⟩)) (fun r hr => hr)) ?_) (fun d m' h => ?_) (fun C m' h => nomatch h)
        · rw [List.length_map]
          exact sz100 (by omega)
        · cases h
          refine s_nil ⟨⟨[some (wsD ws), some (.int (j : Nat)), some (.ref qf), none, none], memQ (pushL (closedP y.2.2) (z :: R')) qf⟩, .cons (.cons (.cons (.consN (.consN (.mem ?_))))), _, ?_, pushL (closedP y.2.2) (z :: R'), rfl, ?_, ?_, ?_, ?_, rfl⟩
          · rw [← memQ_push]
            exact (SubP.refl _).drop.drop
          · rw [pushL_len]; exact Nat.lt_succ_self _
          · intro h
            have := congrArg List.length h
            rw [pushL_len] at this
            cases this
          · rw [pushL_len, List.length_cons]
            rw [List.length_cons, List.length_cons] at hlL
            omega
          · rw [pushL_ops]
            exact okL_push hokL.2.2 hz1
          · rw [pushL_ops, ← hcl]
            exact (closeF_two hfull).symm
      · -- all that were full are closed
        have hst := closeF_stay hb
        refine s_nil ⟨_, .refl _, ws.length + 1 - j, by omega, y :: R, j, rfl, hj, by simp, hlL, ⟨hokL, fun f r h hd' => ?_⟩, ⟨n', hn', by rw [← hp', ← hcl, hst]⟩, rfl⟩
        cases h
        cases R with
        | nil =>
          have h1 := hokL.1
          have h2 : ¬ 1 ≤ y.2.2.2.2.length := of_decide_eq_false hd'
          show y.2.2.2.2.length < y.2.2.2.1
          have h3 : y.2.2.2.1 = 1 := h1
          omega
        | cons z R' =>
          have h1 : ¬ y.2.2.2.2.length = y.2.2.2.1 := of_decide_eq_false hb
          have h2 := (okL_le hokL).1
          show y.2.2.2.2.length < y.2.2.2.1
          have h3 : y.2.2.2.2.length ≤ y.2.2.2.1 := h2
          omega
    have hx1 : x.2.2.2.2.length < x.2.2.2.1 := hlt0
    have hx2 := (okL_le hok.ok).2
    cases hlf : leafAt ws i with
    | none =>
      have e1 : stepF ws i (opsF (x :: L')) = none := by unfold stepF; rw [hlf]; rfl
      refine s_asgM 3 (call_err hL hr (a_cons (d_v 0 rfl) (a_one (d_v 1 rfl))) (fun F1 _ => ⟨ws, i, rfl, hs, by rw [hlf]; rfl⟩)) (fun d m' h => nomatch h) (fun C m' h => ?_)
      cases h
      exact erW (m := []) (noneP (hst0 e1))
    | some o =>
      refine s_asg 3 (call_ok hL hr (a_cons (d_v 0 rfl) (a_one (d_v 1 rfl))) (fun F1 _ => ⟨ws, i, rfl, hs, by rw [hlf]; rfl⟩)) ?_
      cases o with
      | some pj =>
        obtain ⟨p, j⟩ := pj
        have hij := leafAt_lt hlf
        have e1 : stepF ws i (opsF (x :: L')) = some (j, closeF (pushF p (opsF (x :: L')))) := step_leaf hlf
        refine s_ifF ((t_isN' (d_v 3 rfl)).to rfl) ?_
        refine s_expM (m_append 1 (q := x.2.1) (ds := x.2.2.2.2.map Part.dt) rfl (d_ixC 0 (d_ixC (2 * (x :: L').length) (d_v 2 rfl) (d_neg d_int) hq0 (refs_last x L')) d_int rfl at2) (d_ixT (d_v 3 rfl) d_int at0) ?_) (fun d m' h => ?_) (fun C m' h => nomatch h)
        · rw [List.length_map]
          have : x.2.2.2.1 < 10000 := hx2
          exact sz100 (by omega)
        · cases h
          refine s_nil ?_
          refine s_asg 1 (d_ixT (d_v 3 rfl) d_int at1) ?_
          have := inner (pushL p (x :: L')) j hij.1 hij.2 (by intro h; have := congrArg List.length h; rw [pushL_len] at this; cases this) (by rw [pushL_len]; omega) (by rw [pushL_ops]; exact okL_push hok.ok hx1) ?_ (some (leafD (some (p, j))))
          · rw [← memQ_push] at this
            exact this
          · obtain ⟨n, rfl⟩ : ∃ n', n = n' + 1 := ⟨n - 1, by omega⟩
            refine ⟨n, by omega, ?_⟩
            rw [← hp, hnd, e1, pushL_ops]
            rfl
      | none =>
        refine s_ifT ((t_isN' (d_v 3 rfl)).to rfl) ?_
        refine s_asgM 3 (m_call hO (hr.mono (by decide)) (a_cons (d_v 0 rfl) (a_one (d_v 1 rfl))) (fun F1 _ => ⟨ws, i, rfl, hs, rfl⟩)) (fun d m' h => ?_) (fun C m' h => ?_)
        · rcases h with ⟨_, h⟩ | ⟨f, j, q3, q4, ho, hq4, hq3, h⟩
          · cases h
          cases h
          obtain ⟨hop, hnil, hlt⟩ := openAt_ok ho
          obtain ⟨fw, fn, fps⟩ := f
          cases hnil
          have hij := openAt_lt ho
          have e1 : stepF ws i (opsF (x :: L')) = some (j, closeF ((fw, fn, []) :: opsF (x :: L'))) := step_open hlf ho
          have hq5 : (memF ((q3, q4, fw, fn, []) :: x :: L') ++ [(qf, Md.lst (refsF (x :: L')))])[2 * ((q3, q4, fw, fn, []) :: x :: L' : List Fo).length]? = some (qf, .lst (refsF (x :: L'))) := memX_at _ _ _ _
          refine s_expM (m_append (2 * ((q3, q4, fw, fn, []) :: x :: L' : List Fo).length) (q := qf) (ds := refsF (x :: L')) hq5 (d_v 2 rfl) (d_ixT (d_v 3 rfl) d_int at0) ?_) (fun d m' h => ?_) (fun C m' h => nomatch h)
          · rw [refs_len]
            have := hs.1
            exact sz100 (by omega)
          · cases h
            refine s_nil ?_
            refine s_asg 1 (d_ixT (d_v 3 rfl) d_int at1) ?_
            have := inner ((q3, q4, fw, fn, []) :: x :: L') j hij.1 hij.2 (by simp) (by rw [List.length_cons]; omega) ⟨⟨hop, hlt, Nat.zero_le _⟩, hx1, hok.ok⟩ ?_ (some (.tup [.ref q3, .int (j : Nat)]))
            · have e2 : (memF ((q3, q4, fw, fn, []) :: x :: L') ++ [(qf, Md.lst (refsF (x :: L')))]).set (2 * ((q3, q4, fw, fn, []) :: x :: L' : List Fo).length) (qf, .lst (refsF (x :: L') ++ [.ref q3])) = memQ ((q3, q4, fw, fn, []) :: x :: L') qf := by
                unfold memQ
                rw [List.set_append_right _ _ (by rw [memF_len]; exact Nat.le_refl _), memF_len, Nat.sub_self]
                show memF _ ++ [(qf, Md.lst (refsF (x :: L') ++ [.ref q3]))] = _
                rw [refsF_cons (q3, q4, fw, fn, [])]
              rw [← e2] at this
              exact this
            · obtain ⟨n, rfl⟩ : ∃ n', n = n' + 1 := ⟨n - 1, by omega⟩
              refine ⟨n, by omega, ?_⟩
              rw [← hp, hnd, e1]
              rfl
        · rcases h with ⟨ho, h⟩ | ⟨_, _, _, _, _, _, _, h⟩
          · cases h
            have e1 : stepF ws i (opsF (x :: L')) = none := by unfold stepF; rw [hlf, ho]; rfl
            exact erW (m := []) (noneP (hst0 e1))
          · cases h
  · -- behind the loop
    rw [Bool.not_eq_false'] at hd
    have hl : L' = [] := by
      cases L' with
      | nil => rfl
      | cons y r => cases hd
    subst hl
    have hlen : 1 ≤ x.2.2.2.2.length := of_decide_eq_true hd
    obtain ⟨p, ps, hps⟩ : ∃ p ps, x.2.2.2.2 = p :: ps := by
      cases e : x.2.2.2.2 with
      | nil => rw [e] at hlen; cases hlen
      | cons p ps => exact ⟨p, ps, rfl⟩
    have hpf : parseF ws ws.length 0 start0 = some (i, p) := by
      rw [← hp]
      have e : baseP (opsF [x]) = p := by
        show x.2.2.2.2.headD .any = p
        rw [hps]
        rfl
      cases n with
      | zero => rw [parseF, if_pos hd, e]
      | succ n => rw [parseF, if_pos hd, e]
    refine s_when ((t_lt (d_v 1 rfl) (d_lenL T.b_len (d_v 0 rfl))).to (k' := decide (i < ws.length)) (by rw [List.length_map, decide_eq_decide]; omega)) (fun h1 => ?_) (fun h1 => ?_)
    · have h1' : i < ws.length := of_decide_eq_true h1
      have e : partOf ws = none := by unfold partOf; rw [hpf]; exact if_pos h1'
      refine s_raise T.e_NoNotes ?_
      exact erW (m := []) e
    · have h1' : ¬ i < ws.length := of_decide_eq_false h1
      have e : partOf ws = some p := by unfold partOf; rw [hpf]; exact if_neg h1'
      refine s_ret (d := p.dt) (d_ixC 1 (d_ixC 0 (d_ixC 2 (d_v 2 rfl) d_int rfl (refs_one x)) d_int rfl at2) d_int (ds := x.2.2.2.2.map Part.dt) rfl (by rw [hps]; exact at0)) ?_
      show rO K Part.dt (partOf ws) = Res.ok p.dt
      rw [e]
      rfl
end
end Law

set_option Elab.async false
set_option linter.all false
set_option maxRecDepth 100000
set_option maxHeartbeats 1000000
/-! notes.py: words_of, shown, grammar_of. -/
namespace G
open PySem PySem.Spec PyProof.Rows L2
mutual
theorem words_le : ∀ p : Part, (wordsP p).length ≤ 3 * p.size
  | .any => by rw [wordsP]; show 1 ≤ 3 * 1; decide
  | .sign c => by rw [wordsP]; show 2 ≤ 3 * 1; decide
  | .span a b => by rw [wordsP]; show 3 ≤ 3 * 1; decide
  | .rule s => by rw [wordsP]; show 2 ≤ 3 * 1; decide
  | .many p => by have := words_le p; rw [wordsP, Part.size, List.length_cons]; omega
  | .not p => by have := words_le p; rw [wordsP, Part.size, List.length_cons]; omega
  | .row ps => by have := wordss_le ps; rw [wordsP, Part.size, List.length_cons, List.length_cons]; omega
  | .or ps => by have := wordss_le ps; rw [wordsP, Part.size, List.length_cons, List.length_cons]; omega
theorem wordss_le : ∀ ps : List Part, (wordsPs ps).length ≤ 3 * Part.sizes ps
  | [] => by rw [wordsPs]; exact Nat.zero_le _
  | p :: ps => by have := words_le p; have := wordss_le ps; rw [wordsPs, Part.sizes, List.length_append]; omega
end
theorem wordsPs_flat : ∀ ps : List Part, wordsPs ps = ps.flatMap wordsP
  | [] => rfl
  | p :: ps => by rw [wordsPs, wordsPs_flat ps, List.flatMap_cons]
theorem canWs_mem : ∀ {ps : List Part}, canWs ps = true → ∀ p ∈ ps, canW p = true
  | q :: ps, h, p, hp => by
    rw [canWs, Bool.and_eq_true] at h
    rcases List.mem_cons.mp hp with rfl | hp
    · exact h.1
    · exact canWs_mem h.2 p hp
theorem canW_subs {p q : Part} (h : canW p = true) (hq : q ∈ p.subs) : canW q = true := by
  cases p <;> simp only [Part.subs, List.mem_nil_iff, List.mem_singleton, List.not_mem_nil] at hq
  · rw [canW, Bool.and_eq_true] at h; exact canWs_mem h.2 q hq
  · rw [canW, Bool.and_eq_true] at h; exact canWs_mem h.2 q hq
  · subst hq; rw [canW] at h; exact h
  · subst hq; rw [canW] at h; exact h
/-- the words ahead of those of the parts within -/
def headW : Part → List Str
  | .row ps => ["row", numS ps.length]
  | .or ps => ["or", numS ps.length]
  | .many _ => ["many"]
  | .not _ => ["not"]
  | p => wordsP p
theorem words_head (p : Part) : wordsP p = headW p ++ p.subs.flatMap wordsP := by
  cases p <;> simp [wordsP, headW, Part.subs, wordsPs_flat]
theorem log_small : ∀ n : Nat, n < 128 → (((n : Nat) : Int).natAbs).log2 < 1920 := by decide
end G

set_option Elab.async false
set_option linter.all false
set_option maxRecDepth 100000
set_option maxHeartbeats 1000000
/-! notes.py: shown, grammar_of. -/
namespace G
open PySem PySem.Spec PyProof.Rows L2
open TL (tl joinL)
/-- what may be shown -/
structure ShowOk (r : Str × Part) : Prop where
  can : canW r.2 = true
  size : r.2.size ≤ 1000
  deep : r.2.deep ≤ 12
  name : r.1.length ≤ 100
  word : ∀ w ∈ wordsP r.2, w.length ≤ 100
theorem sum_le {k : Nat} : ∀ (l : List Str), (∀ w ∈ l, w.length ≤ k) → (l.map fun t => t.length).sum ≤ l.length * k
  | [], _ => by simp
  | a :: l, h => by
    have h1 := h a List.mem_cons_self
    have h2 := sum_le l fun w hw => h w (List.mem_cons_of_mem _ hw)
    rw [List.map_cons, List.sum_cons, List.length_cons, Nat.succ_mul]
    omega
theorem joinL_len (S : List Nat) : ∀ l : List (List Nat), (joinL S l).length ≤ (l.map List.length).sum + l.length * S.length
  | [] => by simp [joinL]
  | [p] => by simp [joinL]
  | p :: q :: r => by
    have := joinL_len S (q :: r)
    rw [joinL, List.length_append, List.length_append]
    simp only [List.map_cons, List.sum_cons, List.length_cons] at this ⊢
    rw [Nat.succ_mul]
    omega
theorem join_le (y : Str) (l : List Str) : (Txt.join y l).length ≤ (l.map fun t => t.length).sum + l.length * y.length := by
  rw [TL.join_eq]
  have h := TL.tl_join y l
  have h2 := congrArg List.length h
  have h3 := joinL_len (tl y) (l.map tl)
  rw [List.map_map, List.length_map] at h3
  have e1 : ∀ t : Str, (tl t).length = t.length := fun t => Array.length_toList
  have e2 : (l.map (List.length ∘ tl)) = l.map fun t => t.length := List.map_congr_left fun t _ => e1 t
  rw [e2, e1] at h3
  rw [e1] at h2
  omega
theorem sp_len : ((" " : Str)).length = 1 ∧ (("\n" : Str)).length = 1 ∧ (("=" : Str)).length = 1 := ⟨by decide +kernel, by decide +kernel, by decide +kernel⟩
theorem row_words (r : Str × Part) (h : ShowOk r) : (r.1 :: "=" :: wordsP r.2).length ≤ 3002 ∧ ∀ w ∈ r.1 :: "=" :: wordsP r.2, w.length ≤ 100 := by
  have h1 := words_le r.2
  have h2 := h.size
  refine ⟨by rw [List.length_cons, List.length_cons]; omega, fun w hw => ?_⟩
  rcases List.mem_cons.mp hw with rfl | hw
  · exact h.name
  · rcases List.mem_cons.mp hw with rfl | hw
    · rw [sp_len.2.2]; decide
    · exact h.word w hw
theorem row_fits (r : Str × Part) (h : ShowOk r) : ((r.1 :: "=" :: wordsP r.2).map fun t => t.length).sum + (r.1 :: "=" :: wordsP r.2).length * ((" " : Str)).length ≤ 303300 := by
  obtain ⟨h1, h2⟩ := row_words r h
  have h3 := sum_le _ h2
  rw [sp_len.1]
  generalize ((r.1 :: "=" :: wordsP r.2).map fun t => t.length).sum = a at *
  generalize (r.1 :: "=" :: wordsP r.2).length = b at *
  have : b * 100 ≤ 3002 * 100 := Nat.mul_le_mul_right _ h1
  omega
theorem rowT_len (r : Str × Part) (h : ShowOk r) : (rowT r).length ≤ 303300 := Nat.le_trans (join_le _ _) (row_fits r h)
theorem text_fits (rules : Rules) (h : ∀ r ∈ rules, ShowOk r) (hl : rules.length ≤ 40) : ((rules.map rowT).map fun t => t.length).sum + (rules.map rowT).length * (("\n" : Str)).length ≤ 12200000 := by
  have h3 := sum_le (k := 303300) (rules.map rowT) fun w hw => by
    obtain ⟨r, hr, rfl⟩ := List.mem_map.mp hw
    exact rowT_len r (h r hr)
  rw [sp_len.2.1]
  rw [List.length_map] at h3 ⊢
  generalize ((rules.map rowT).map fun t => t.length).sum = a at *
  have : rules.length * 303300 ≤ 40 * 303300 := Nat.mul_le_mul_right _ hl
  omega
theorem textT_len (rules : Rules) (h : ∀ r ∈ rules, ShowOk r) (hl : rules.length ≤ 40) : (textT rules).length ≤ 12200000 := Nat.le_trans (join_le _ _) (text_fits rules h hl)
end G
namespace Law
open PySem PySem.Spec PyProof.Rows L2 G
section
variable {P : Program} {w : World} {K : PySem.W.Frag} {mg : Str → Option Value} {base : Heap}
/-- what making a grammar comes to, told by the object -/
def MadeOut (K : PySem.W.Frag) (m : Mm) (l : List (Dt × Dt)) (z : Rem) : Prop := ∃ g, (∃ m', InitOut K g m l (.ok .non m') ∧ z = .ok (.ref g) m') ∨ (∃ C m', InitOut K g m l (.err C m') ∧ z = .err C m')
def pGramOf (K : PySem.W.Frag) (_ : Hp) (ds : List Dt) (m : Mm) (R : Rem → Prop) : Prop := ∃ (t : Str) (rows : List Str), ds = [.str t] ∧ Txt.split t "\n" = rows ∧ t.length + 2 ≤ sizeLine ∧ rows.length ≤ 100000 ∧ (∀ r ∈ rows, r.length ≤ 1000000 ∧ Short (Txt.split r " ")) ∧
  (∀ rs, rowsP rows = some rs → ∀ x ∈ rs, okD (.str x.1) = true ∧ okD x.2.dt = true ∧ x.2.size ≤ 100000) ∧
  R = fun z => (rowsP rows = none ∧ z = .err (noN K) m) ∨ ∃ rs, rowsP rows = some rs ∧ MadeOut K m (rs.map fun r => (.str r.1, r.2.dt)) z
theorem rowsP_some_len : ∀ {rows : List Str} {rs : Rules}, rowsP rows = some rs → rs.length = rows.length
  | [], rs, h => by cases h; rfl
  | r :: rows, rs, h => by
    obtain ⟨x, hx, h⟩ := Option.bind_eq_some_iff.mp h
    obtain ⟨xs, hxs, h⟩ := Option.map_eq_some_iff.mp h
    cases h
    rw [List.length_cons, List.length_cons, rowsP_some_len hxs]
theorem madeOut_drop {K : PySem.W.Frag} {m : Mm} {c : Addr × Md} {l : List (Dt × Dt)} {g : Addr} {m' : Mm} (h : InitOut K g (c :: m) l (.ok .non m')) : ∃ m2, SubP m2 m' ∧ InitOut K g m l (.ok .non m2) := by
  rcases h with ⟨_, h⟩ | ⟨rules, hv, h1, h2, h⟩
  · cases h
  rcases h with ⟨_, h⟩ | ⟨hk, E, hE, ⟨_, h⟩ | ⟨hn, qp, qe, h⟩⟩
  · cases h
  · cases h
  · cases h
    exact ⟨(qe, .dK (ek E)) :: (qp, .dK (pk rules)) :: (g, .ins (gG K) [("parts", .ref qp), ("empty", .ref qe)]) :: m, .cons (.cons (.cons (SubP.refl m).drop)), .inr ⟨rules, hv, h1, h2, .inr ⟨hk, E, hE, .inr ⟨hn, qp, qe, rfl⟩⟩⟩⟩
theorem madeOut_err {K : PySem.W.Frag} {m : Mm} {c : Addr × Md} {l : List (Dt × Dt)} {g C : Addr} {m' : Mm} (h : InitOut K g (c :: m) l (.err C m')) : m' = c :: m ∧ InitOut K g m l (.err C m) := by
  rcases h with ⟨h0, h⟩ | ⟨rules, hv, h1, h2, h⟩
  · cases h
    exact ⟨rfl, .inl ⟨h0, rfl⟩⟩
  rcases h with ⟨hk, h⟩ | ⟨hk, E, hE, ⟨hR, h⟩ | ⟨hn, qp, qe, h⟩⟩
  · cases h
    exact ⟨rfl, .inr ⟨rules, hv, h1, h2, .inl ⟨hk, rfl⟩⟩⟩
  · cases h
    exact ⟨rfl, .inr ⟨rules, hv, h1, h2, .inr ⟨hk, E, hE, .inl ⟨hR, rfl⟩⟩⟩⟩
  · cases h
theorem cut2 (ws : List Str) : G.cutD (ws.map Dt.str) (some 2) none = (ws.drop 2).map Dt.str := by
  have e : HT.sIx (ws.map Dt.str).length 0 (some ((2 : Nat) : Int)) = min 2 (ws.map Dt.str).length := HT.sIx_nat _ _ _
  unfold G.cutD
  rw [show (some (2 : Int)) = some ((2 : Nat) : Int) from rfl, e, HT.sIx_none, List.length_map, List.map_drop]
  rcases Nat.le_total 2 ws.length with h | h
  · rw [Nat.min_eq_left h, List.take_of_length_le]
    rw [List.length_drop, List.length_map]
    exact Nat.le_refl _
  · rw [Nat.min_eq_right h, List.drop_of_length_le (by rw [List.length_map]; exact Nat.le_refl _), List.drop_of_length_le (by rw [List.length_map]; exact h)]
    simp
theorem short_drop {ws : List Str} (h : Short ws) (k : Nat) : Short (ws.drop k) := ⟨by rw [List.length_drop]; have := h.1; omega, fun w hw => h.2 w (List.mem_of_mem_drop hw)⟩
theorem ok_grammar_of (T : Txt K mg) : Cal P w K mg base (L2N.CX P w) 18 "grammar_of" (spM (pGramOf K)) := by
  obtain ⟨f, fd, a⟩ := T.d_grammar_of
  have hP := ok_part_of (P := P) (w := w) (base := base) T
  refine a.cal (fn_M a.fn sc_grammar_of (fun F ds m R h => ?_) (fun X A B Bf hr F ds m R h => ?_))
  · obtain ⟨_, _, rfl, _⟩ := h; rfl
  obtain ⟨t, rows, rfl, hsp, ht, hrl, hrows, hok, rfl⟩ := h
  refine s_asgM 1 (m_lst a_nil) (fun d m' h => ?_) (fun C m' h => by obtain ⟨_, _, h⟩ := h; cases h)
  obtain ⟨q, hq, h⟩ := h
  cases h
  refine s_for (I := fun i δ => ∃ rs, rowsP (rows.take i) = some rs ∧ δ = (⟨[some (.str t), some (.ref q), none, none], (q, .lst (rs.map fun r => .tup [.str r.1, r.2.dt])) :: m⟩ : Sl)) (i_lst ((d_split (d_v 0 rfl) d_str (by decide +kernel) ht).to (congrArg Dt.lst (congrArg (List.map Dt.str) hsp)))) ⟨[], rfl, rfl⟩ ?_ ?_
  · rintro i d δi ⟨rs, hrs, rfl⟩ hi
    rw [List.getElem?_map] at hi
    obtain ⟨row, hrow, rfl⟩ := Option.map_eq_some_iff.mp hi
    have hm : row ∈ rows := List.mem_of_getElem? hrow
    obtain ⟨hl, hsh⟩ := hrows row hm
    have hrsl := rowsP_some_len hrs
    rw [List.length_take] at hrsl
    have tk : rows.take (i + 1) = rows.take i ++ [row] := by rw [List.take_succ, hrow]; rfl
    have snoc : rowsP (rows.take (i + 1)) = (rowP row).map fun x => rs ++ [x] := by
      rw [tk, rowsP_snoc, hrs]
      rfl
    refine ⟨_, g_n 2, ?_⟩
    refine s_asg 3 (d_split (d_v 2 rfl) d_str (by decide +kernel) (Nat.le_trans (by omega : _ ≤ 1000002) (by decide))) ?_
    have erN : rowP row = none → ∀ {m1 : Mm}, SubP m m1 → EndM (fun z => (rowsP rows = none ∧ z = .err (noN K) m) ∨ ∃ rs, rowsP rows = some rs ∧ MadeOut K m (rs.map fun r => (.str r.1, r.2.dt)) z) (.err (noN K) m1) := fun h m1 hs => ⟨m, hs, .inl ⟨rowsP_none hrow h, rfl⟩⟩
    -- the words
    generalize hws : Txt.split row " " = ws at *
    have rowE : rowP row = if ws.length < 3 ∨ ws.getD 0 "" = ("" : Str) ∨ ws.getD 1 "" ≠ ("=" : Str) then none else (partOf (ws.drop 2)).map fun p => (ws.getD 0 "", p) := by
      unfold rowP
      rw [hws]
    have gat : ∀ k : Nat, k < ws.length → atI (ws.map Dt.str) ((k : Nat) : Int) = some (.str (ws.getD k "")) := fun k hk => ws_at (by rw [List.getD_eq_getElem?_getD, List.getElem?_eq_getElem hk]; rfl)
    refine s_when (k := decide (ws.length < 3 ∨ ws.getD 0 "" = ("" : Str) ∨ ws.getD 1 "" ≠ ("=" : Str))) (t_w (EwD.to (w_or (p := decide (ws.length < 3)) ((t_lt (d_lenL T.b_len (d_v 3 rfl)) d_int).to (by rw [List.length_map, decide_eq_decide]; omega)) (q := decide (ws.getD 0 "" = ("" : Str)) || !decide (ws.getD 1 "" = ("=" : Str))) (fun h => ?_)) ?_)) (fun h1 => ?_) (fun h1 => ?_)
    · have h3 : ¬ ws.length < 3 := of_decide_eq_false h
      exact w_or (t_eq (d_ixL (d_v 3 rfl) d_int (gat 0 (by omega))) d_str) (fun _ => w_or1 (t_ne (d_ixL (d_v 3 rfl) d_int (gat 1 (by omega))) d_str))
    · by_cases c1 : ws.length < 3 <;> by_cases c2 : ws.getD 0 "" = ("" : Str) <;> by_cases c3 : ws.getD 1 "" = ("=" : Str) <;> simp [c1, c2, c3]
    · have h1' := of_decide_eq_true h1
      refine s_raise T.e_NoNotes ?_
      exact erN (by rw [rowE, if_pos h1']) (SubP.refl m).drop
    · have h1' := of_decide_eq_false h1
      have h3 : ¬ ws.length < 3 := fun h => h1' (.inl h)
      cases hp : partOf (ws.drop 2) with
      | none =>
        refine s_expM (m_appendX 0 rfl (d_v 1 rfl) (m_tupX (ax_next (d_ixL (d_v 3 rfl) d_int (gat 0 (by omega))) (ax_here (call_err hP (hr.mono (by decide)) (a_one ((d_sliceL (d_v 3 rfl) (.some d_int) .none).to (congrArg Dt.lst (cut2 ws)))) (fun F1 _ => ⟨ws.drop 2, rfl, short_drop hsh 2, by rw [hp]; rfl⟩)))))) (fun d m' h => nomatch h) (fun C m' h => ?_)
        cases h
        exact erN (by rw [rowE, if_neg h1', hp]; rfl) (SubP.refl m).drop
      | some p =>
        refine s_expM (m_append 0 rfl (d_v 1 rfl) (d_tup (a_cons (d_ixL (d_v 3 rfl) d_int (gat 0 (by omega))) (a_one (call_ok hP (hr.mono (by decide)) (a_one ((d_sliceL (d_v 3 rfl) (.some d_int) .none).to (congrArg Dt.lst (cut2 ws)))) (fun F1 _ => ⟨ws.drop 2, rfl, short_drop hsh 2, by rw [hp]; rfl⟩))))) ?_) (fun d m' h => ?_) (fun C m' h => nomatch h)
        · rw [List.length_map]
          exact sz100 (by omega)
        · cases h
          refine s_nil ⟨_, .cons (.cons (.consN (.consN (.mem (.refl _))))), rs ++ [(ws.getD 0 "", p)], ?_, ?_⟩
          · rw [snoc, rowE, if_neg h1', hp]
            rfl
          · rw [List.map_append]
            rfl
  · rintro δn ⟨rs, hrs, rfl⟩
    rw [List.length_map, List.take_of_length_le (Nat.le_refl _)] at hrs
    refine s_retM (R := fun z => MadeOut K ((q, .lst (rs.map fun r => .tup [.str r.1, r.2.dt])) :: m) (rs.map fun r => (.str r.1, r.2.dt)) z) (m_make (f := 0) (ok_init T) T.k_Grammar T.g_Grammar hr (a_one (d_v 1 rfl)) (fun F1 g hF hg => ⟨_, ⟨g, _, _, rs.map fun r => (.str r.1, r.2.dt), rfl, rfl, ?_, fun x hx => ?_, rfl⟩, fun d m' h => ?_, fun C m' h => ?_⟩)) (fun d m' h => ?_) (fun C m' h => ?_)
    · rw [List.map_map]
      exact .cell 0 rfl
    · obtain ⟨r, hr', rfl⟩ := List.mem_map.mp hx
      have := hok rs hrs r hr'
      exact ⟨this.1, this.2.1, fun p hp => by cases dt_inj hp; exact this.2.2⟩
    · have hd : d = .non := by
        rcases h with ⟨_, h⟩ | ⟨_, _, _, _, ⟨_, h⟩ | ⟨_, _, _, ⟨_, h⟩ | ⟨_, _, _, h⟩⟩⟩ <;> cases h
        rfl
      subst hd
      exact ⟨rfl, g, .inl ⟨m', h, rfl⟩⟩
    · exact ⟨g, .inr ⟨C, m', h, rfl⟩⟩
    · obtain ⟨g, ⟨m2, h, hz⟩ | ⟨C, m2, h, hz⟩⟩ := h
      · cases hz
        obtain ⟨m3, hs, h3⟩ := madeOut_drop h
        exact ⟨m3, hs, .inr ⟨rs, hrs, g, .inl ⟨m3, h3, rfl⟩⟩⟩
      · cases hz
    · obtain ⟨g, ⟨m2, h, hz⟩ | ⟨C, m2, h, hz⟩⟩ := h
      · cases hz
      · cases hz
        obtain ⟨rfl, h3⟩ := madeOut_err h
        exact ⟨m, (SubP.refl m).drop, .inr ⟨rs, hrs, g, .inr ⟨C, m, h3, rfl⟩⟩⟩
end
end Law

set_option Elab.async false
set_option linter.all false
set_option maxRecDepth 100000
set_option maxHeartbeats 1000000
/-! The grammars that are drawn, written and read back. -/
namespace G
open PySem PySem.Spec PyProof.Rows L2
open TL (tl joinL)
/-! no row is wide -/
mutual
def wide : Part → Bool
  | .row ps => decide (ps.length < 128) && wides ps
  | .or ps => decide (ps.length < 128) && wides ps
  | .many p => wide p
  | .not p => wide p
  | _ => true
def wides : List Part → Bool
  | [] => true
  | p :: ps => wide p && wides ps
end
mutual
theorem canW_of : ∀ p : Part, p.good = true → wide p = true → (∀ s ∈ p.rules, s ≠ ("" : Str)) → canW p = true
  | .sign c, h, _, _ => by simpa [Part.good, canW] using h
  | .span a b, h, _, _ => by
    simp only [Part.good, Bool.and_eq_true, decide_eq_true_eq] at h
    simp [canW, h.1.1, h.1.2]
  | .any, _, _, _ => by simp [canW]
  | .rule s, _, _, h => by rw [canW]; exact decide_eq_true (h s (by simp [Part.rules]))
  | .many p, h, w, r => by rw [canW]; exact canW_of p (by simpa [Part.good] using h) (by simpa [wide] using w) (by simpa [Part.rules] using r)
  | .not p, h, w, r => by rw [canW]; exact canW_of p (by simpa [Part.good] using h) (by simpa [wide] using w) (by simpa [Part.rules] using r)
  | .row ps, h, w, r => by
    rw [wide, Bool.and_eq_true] at w
    rw [canW, w.1, canWs_of ps (by simpa [Part.good] using h) w.2 (by rw [Part.rules] at r; exact r)]
    rfl
  | .or ps, h, w, r => by
    rw [wide, Bool.and_eq_true] at w
    rw [Part.good, Bool.and_eq_true] at h
    rw [canW, w.1, canWs_of ps h.2 w.2 (by rw [Part.rules] at r; exact r)]
    rfl
theorem canWs_of : ∀ ps : List Part, Part.goods ps = true → wides ps = true → (∀ s ∈ Part.ruless ps, s ≠ ("" : Str)) → canWs ps = true
  | [], _, _, _ => by rw [canWs]
  | p :: ps, h, w, r => by
    rw [Part.goods, Bool.and_eq_true] at h
    rw [wides, Bool.and_eq_true] at w
    rw [Part.ruless] at r
    rw [canWs, canW_of p h.1 w.1 (fun s hs => r s (List.mem_append_left _ hs)), canWs_of ps h.2 w.2 (fun s hs => r s (List.mem_append_right _ hs))]
    rfl
end
theorem wide_leaf (c : Int) (S : List Nat) (names : List Str) (first : Nat) : wide (leafP c S names first) = true := by
  unfold leafP
  repeat (first | rfl | split | simp [wide])
theorem wide_joined {n : Nat} {p l o : Part} (hp : wide p = true) (hl : wide l = true) (ho : wide o = true) : wide (joinedP n p l o) = true := by
  unfold joinedP
  split <;> simp [wide, wides, hp, hl, ho]
theorem wide_piled (c : Int) (S : List Nat) (names : List Str) (first : Nat) : wide (piledP c S names first) = true := by
  unfold piledP
  have step : ∀ (st : Int × Part) (t : Nat), wide st.2 = true → wide (turnP S names first st t).2 = true := fun st t h => wide_joined h (wide_leaf _ _ _ _) (wide_leaf _ _ _ _)
  exact step _ 2 (step _ 1 (step (num0 c, leafP (num0 c / 5) S names first) 0 (wide_leaf _ _ _ _)))
theorem wide_head (c : Int) (S : List Nat) (names : List Str) : wide (headP c S names) = true := by
  have h := wide_piled (c + 1) S names 0
  unfold headP
  rcases sureP_cases c S with e | e | e <;> rw [e] <;> simp [wide, wides, h]
theorem wide_part (c : Int) (k : Nat) (S : List Nat) (names : List Str) : wide (partP c k S names) = true := by
  have h1 := wide_head c S names
  have h2 : wide (tailP c k S names) = true := wide_piled _ _ _ _
  have hb : wide (bodyP c k S names) = true := by
    rcases bodyP_cases c k S names with e | e | e | e <;> rw [e] <;> simp [wide, wides, h1, h2]
  unfold partP
  split
  · simp [wide, wides, hb]
  · exact hb
/-! the words -/
mutual
theorem words_all (Q : Str → Prop) (hk : Q "any" ∧ Q "sign" ∧ Q "span" ∧ Q "rule" ∧ Q "many" ∧ Q "not" ∧ Q "row" ∧ Q "or") (hn : ∀ n < 128, Q (numS n)) : ∀ p : Part, canW p = true → (∀ s ∈ p.rules, Q s) → ∀ w ∈ wordsP p, Q w
  | .any, _, _, w, h => by rw [wordsP, List.mem_singleton] at h; subst h; exact hk.1
  | .sign c, hc, _, w, h => by
    rw [canW, decide_eq_true_eq] at hc
    rw [wordsP, List.mem_cons, List.mem_singleton] at h
    rcases h with rfl | rfl
    · exact hk.2.1
    · exact hn c (code_lt hc)
  | .span a b, hc, _, w, h => by
    rw [canW, Bool.and_eq_true, decide_eq_true_eq, decide_eq_true_eq] at hc
    rw [wordsP, List.mem_cons, List.mem_cons, List.mem_singleton] at h
    rcases h with rfl | rfl | rfl
    · exact hk.2.2.1
    · exact hn a (code_lt hc.1)
    · exact hn b (code_lt hc.2)
  | .rule s, _, hr, w, h => by
    rw [wordsP, List.mem_cons, List.mem_singleton] at h
    rcases h with rfl | rfl
    · exact hk.2.2.2.1
    · exact hr _ (by simp [Part.rules])
  | .many p, hc, hr, w, h => by
    rw [wordsP, List.mem_cons] at h
    rcases h with rfl | h
    · exact hk.2.2.2.2.1
    · exact words_all Q hk hn p (by simpa [canW] using hc) (by simpa [Part.rules] using hr) w h
  | .not p, hc, hr, w, h => by
    rw [wordsP, List.mem_cons] at h
    rcases h with rfl | h
    · exact hk.2.2.2.2.2.1
    · exact words_all Q hk hn p (by simpa [canW] using hc) (by simpa [Part.rules] using hr) w h
  | .row ps, hc, hr, w, h => by
    rw [canW, Bool.and_eq_true, decide_eq_true_eq] at hc
    rw [wordsP, List.mem_cons, List.mem_cons] at h
    rcases h with rfl | rfl | h
    · exact hk.2.2.2.2.2.2.1
    · exact hn _ hc.1
    · exact wordss_all Q hk hn ps hc.2 (by rw [Part.rules] at hr; exact hr) w h
  | .or ps, hc, hr, w, h => by
    rw [canW, Bool.and_eq_true, decide_eq_true_eq] at hc
    rw [wordsP, List.mem_cons, List.mem_cons] at h
    rcases h with rfl | rfl | h
    · exact hk.2.2.2.2.2.2.2
    · exact hn _ hc.1
    · exact wordss_all Q hk hn ps hc.2 (by rw [Part.rules] at hr; exact hr) w h
theorem wordss_all (Q : Str → Prop) (hk : Q "any" ∧ Q "sign" ∧ Q "span" ∧ Q "rule" ∧ Q "many" ∧ Q "not" ∧ Q "row" ∧ Q "or") (hn : ∀ n < 128, Q (numS n)) : ∀ ps : List Part, canWs ps = true → (∀ s ∈ Part.ruless ps, Q s) → ∀ w ∈ wordsPs ps, Q w
  | [], _, _, w, h => by rw [wordsPs] at h; cases h
  | p :: ps, hc, hr, w, h => by
    rw [canWs, Bool.and_eq_true] at hc
    rw [wordsPs, List.mem_append] at h
    rw [Part.ruless] at hr
    rcases h with h | h
    · exact words_all Q hk hn p hc.1 (fun s hs => hr s (List.mem_append_left _ hs)) w h
    · exact wordss_all Q hk hn ps hc.2 (fun s hs => hr s (List.mem_append_right _ hs)) w h
end
/-- a word as it may stand in notes -/
def WordOk (w : Str) : Prop := w.length ≤ 100 ∧ ∀ c ∈ w.cps.toList, c ≠ 32 ∧ c ≠ 10
instance (w : Str) : Decidable (WordOk w) := by unfold WordOk; exact inferInstance
theorem kinds_word : WordOk "any" ∧ WordOk "sign" ∧ WordOk "span" ∧ WordOk "rule" ∧ WordOk "many" ∧ WordOk "not" ∧ WordOk "row" ∧ WordOk "or" := by decide +kernel
theorem nums_word : ∀ n < 128, WordOk (numS n) := by decide +kernel
theorem eq_word : WordOk "=" := by decide +kernel
/-- a rule as it may stand in notes -/
structure RuleOk (r : Str × Part) : Prop where
  show_ : ShowOk r
  name : WordOk r.1
  ne : r.1 ≠ ("" : Str)
  words : ∀ w ∈ wordsP r.2, WordOk w
theorem mem_joinL {S : List Nat} {c : Nat} : ∀ {l : List (List Nat)}, c ∈ joinL S l → c ∈ S ∨ ∃ p ∈ l, c ∈ p
  | [], h => by cases h
  | [p], h => .inr ⟨p, List.mem_singleton.mpr rfl, h⟩
  | p :: q :: r, h => by
    rw [joinL, List.mem_append, List.mem_append] at h
    rcases h with h | h | h
    · exact .inr ⟨p, List.mem_cons_self, h⟩
    · exact .inl h
    · rcases mem_joinL h with h | ⟨x, hx, h⟩
      · exact .inl h
      · exact .inr ⟨x, List.mem_cons_of_mem _ hx, h⟩
theorem sp_tl : tl (" " : Str) = [32] ∧ tl ("\n" : Str) = [10] ∧ (" " : Str).cps.all (· < 256) = true ∧ ("\n" : Str).cps.all (· < 256) = true := by decide +kernel
theorem words_ok {r : Str × Part} (h : RuleOk r) : ∀ w ∈ r.1 :: "=" :: wordsP r.2, WordOk w := fun w hw => by
  rcases List.mem_cons.mp hw with rfl | hw
  · exact h.name
  · rcases List.mem_cons.mp hw with rfl | hw
    · exact eq_word
    · exact h.words w hw
theorem row_split {r : Str × Part} (h : RuleOk r) : Txt.split (rowT r) " " = r.1 :: "=" :: wordsP r.2 :=
  TL.split_join sp_tl.1 sp_tl.2.2.1 (by simp) fun w hw hc => (((words_ok h) w hw).2 32 hc).1 rfl
theorem row_nl {r : Str × Part} (h : RuleOk r) : 10 ∉ tl (rowT r) := fun hc => by
  unfold rowT at hc
  rw [TL.join_eq, TL.tl_join, sp_tl.1] at hc
  rcases mem_joinL hc with h1 | ⟨p, hp, h1⟩
  · simp at h1
  · obtain ⟨w, hw, rfl⟩ := List.mem_map.mp hp
    exact (((words_ok h) w hw).2 10 h1).2 rfl
theorem text_split {rules : Rules} (h : ∀ r ∈ rules, RuleOk r) (hne : rules ≠ []) : Txt.split (textT rules) "\n" = rules.map rowT :=
  TL.split_join sp_tl.2.1 sp_tl.2.2.2 (by simpa using hne) fun w hw => by
    obtain ⟨r, hr, rfl⟩ := List.mem_map.mp hw
    exact row_nl (h r hr)
theorem words_pos (p : Part) : 1 ≤ (wordsP p).length := by cases p <;> simp [wordsP]
theorem row_back {r : Str × Part} (h : RuleOk r) : rowP (rowT r) = some r := by
  unfold rowP
  rw [row_split h]
  have h1 := words_pos r.2
  rw [if_neg (by
    rintro (h2 | h2 | h2)
    · rw [List.length_cons, List.length_cons] at h2; omega
    · exact h.ne h2
    · exact h2 rfl)]
  show (partOf (wordsP r.2)).map _ = _
  rw [partOf_words h.show_.can]
  rfl
theorem rows_back : ∀ {rules : Rules}, (∀ r ∈ rules, RuleOk r) → rowsP (rules.map rowT) = some rules
  | [], _ => rfl
  | r :: rules, h => by
    show (rowP (rowT r)).bind (fun x => (rowsP (rules.map rowT)).map fun xs => x :: xs) = _
    rw [row_back (h r List.mem_cons_self), rows_back fun x hx => h x (List.mem_cons_of_mem _ hx)]
    rfl
theorem name_word {ns : List Int} {s : Str} (h : s ∈ G.namesOf ns) : WordOk s ∧ s ≠ ("" : Str) := by
  unfold G.namesOf at h
  obtain ⟨k, hk, rfl⟩ := List.mem_map.mp h
  have h0 := nameL_az (st := cell ns 0 + cell ns 2) (c := cell ns (3 + (k : Nat))) (Nat.lt_of_lt_of_le (List.mem_range.mp hk) (many_le' _).2)
  refine ⟨⟨Nat.le_trans h0.2.1 (by decide), fun c hc => ?_⟩, fun e => ?_⟩
  · have := h0.2.2 c hc
    omega
  · have := congrArg Str.length e
    have h2 : (mk (nameL (cell ns 0 + cell ns 2) (cell ns (3 + (k : Nat))) k)).length = (nameL (cell ns 0 + cell ns 2) (cell ns (3 + (k : Nat))) k).length := rfl
    rw [h2, show (("" : Str)).length = 0 from by decide +kernel] at this
    omega
theorem rulesOf_note {ns : List Int} {r : Str × Part} (h : r ∈ rulesOf ns) : RuleOk r := by
  have hn : r.1 ∈ G.namesOf ns := by rw [← rulesOf_fst]; exact List.mem_map.mpr ⟨r, h, rfl⟩
  have hr : ∀ s ∈ r.2.rules, s ∈ G.namesOf ns := fun s hs => by rw [← rulesOf_fst]; exact rulesOf_known ns r h s hs
  have hv := (rulesOf_valid ns).pt r h
  have hc : canW r.2 = true := canW_of r.2 hv.1 (by obtain ⟨k, _, _, e⟩ := rulesOf_mem h; rw [e]; exact wide_part _ _ _ _) fun s hs => (name_word (hr s hs)).2
  have hw : ∀ w ∈ wordsP r.2, WordOk w := words_all WordOk kinds_word nums_word r.2 hc fun s hs => (name_word (hr s hs)).1
  exact ⟨⟨hc, rulesOf_size h, hv.2, (name_word hn).1.1, fun w hw' => (hw w hw').1⟩, (name_word hn).1, (name_word hn).2, hw⟩
end G

set_option Elab.async false
set_option linter.all false
set_option maxRecDepth 100000
set_option maxHeartbeats 2000000
/-! The rules that law_k04 draws, good and bad, as plain lists of Lean. -/
namespace G
open PySem PySem.Spec PyProof.Rows L2
abbrev anyD : Dt := .tup [.str "any"]
/-! deep -/
def deep1 (k : Nat) (p : Dt) : Dt := if k % 4 = 0 then .tup [.str "not", p] else if k % 4 = 1 then .tup [.str "many", p] else if k % 4 = 2 then .tup [.str "row", .tup [anyD, p]] else .tup [.str "or", .tup [p, anyD]]
def deepD (p : Dt) : Nat → Dt
  | 0 => p
  | k + 1 => deep1 k (deepD p k)
def deep1P (k : Nat) (p : Part) : Part := if k % 4 = 0 then .not p else if k % 4 = 1 then .many p else if k % 4 = 2 then .row [.any, p] else .or [p, .any]
def deepP (p : Part) : Nat → Part
  | 0 => p
  | k + 1 => deep1P k (deepP p k)
theorem deep1_dt (k : Nat) (p : Part) : deep1 k p.dt = (deep1P k p).dt := by
  unfold deep1 deep1P
  split
  · rw [Part.dt]
  · split
    · rw [Part.dt]
    · split
      · rw [Part.dt, Part.dts, Part.dts, Part.dts, Part.dt]
      · rw [Part.dt, Part.dts, Part.dts, Part.dts, Part.dt]
theorem deepD_dt (p : Part) : ∀ k, deepD p.dt k = (deepP p k).dt
  | 0 => rfl
  | k + 1 => by rw [deepD, deepD_dt p k, deep1_dt]; rfl
structure DpOk (p : Part) (d z : Nat) (rs : List Str) : Prop where
  good : p.good = true
  deep : p.deep = d
  size : p.size ≤ z
  rules : p.rules = rs
theorem deep1P_ok {p : Part} {d z : Nat} {rs : List Str} (h : DpOk p d z rs) (k : Nat) : DpOk (deep1P k p) (d + 1) (z + 2) rs := by
  obtain ⟨h1, h2, h3, h4⟩ := h
  subst h2
  subst h4
  have hp := Part.deep_pos p
  unfold deep1P
  split
  · exact ⟨by simpa [Part.good] using h1, by simp [Part.deep], by simp only [Part.size]; omega, by simp [Part.rules]⟩
  · split
    · exact ⟨by simpa [Part.good] using h1, by simp [Part.deep], by simp only [Part.size]; omega, by simp [Part.rules]⟩
    · split
      · exact ⟨by simp [Part.good, Part.goods, h1], by simp only [Part.deep, Part.deeps]; omega, by simp only [Part.size, Part.sizes]; omega, by simp [Part.rules, Part.ruless]⟩
      · exact ⟨by simp [Part.good, Part.goods, h1], by simp only [Part.deep, Part.deeps]; omega, by simp only [Part.size, Part.sizes]; omega, by simp [Part.rules, Part.ruless]⟩
theorem deepP_ok {p : Part} {d z : Nat} {rs : List Str} (h : DpOk p d z rs) : ∀ k, DpOk (deepP p k) (d + k) (z + 2 * k) rs
  | 0 => h
  | k + 1 => deep1P_ok (deepP_ok h k) k
/-! wrapped -/
def wrap1 (c : Int) (t : Nat) (p : Dt) : Dt :=
  if (c / 4 + (t : Nat)) % 5 = 0 then .tup [.str "row", .tup [p, anyD]] else if (c / 4 + (t : Nat)) % 5 = 1 then .tup [.str "row", .tup [anyD, p]]
  else if (c / 4 + (t : Nat)) % 5 = 2 then .tup [.str "or", .tup [.tup [.str "sign", .str (sg 97)], p, anyD]]
  else if (c / 4 + (t : Nat)) % 5 = 3 then .tup [.str "many", p] else .tup [.str "not", p]
def wrapD (c : Int) (p : Dt) : Nat → Dt
  | 0 => p
  | k + 1 => wrap1 c k (wrapD c p k)
def wrap1P (c : Int) (t : Nat) (p : Part) : Part :=
  if (c / 4 + (t : Nat)) % 5 = 0 then .row [p, .any] else if (c / 4 + (t : Nat)) % 5 = 1 then .row [.any, p]
  else if (c / 4 + (t : Nat)) % 5 = 2 then .or [.sign 97, p, .any]
  else if (c / 4 + (t : Nat)) % 5 = 3 then .many p else .not p
def wrapP (c : Int) (p : Part) : Nat → Part
  | 0 => p
  | k + 1 => wrap1P c k (wrapP c p k)
theorem wrap1_dt (c : Int) (k : Nat) (p : Part) : wrap1 c k p.dt = (wrap1P c k p).dt := by
  unfold wrap1 wrap1P
  split
  · rw [Part.dt, Part.dts, Part.dts, Part.dts, Part.dt]
  · split
    · rw [Part.dt, Part.dts, Part.dts, Part.dts, Part.dt]
    · split
      · rw [Part.dt, Part.dts, Part.dts, Part.dts, Part.dts, Part.dt, Part.dt]
      · split
        · rw [Part.dt]
        · rw [Part.dt]
theorem wrapD_dt (c : Int) (p : Part) : ∀ k, wrapD c p.dt k = (wrapP c p k).dt
  | 0 => rfl
  | k + 1 => by rw [wrapD, wrapD_dt c p k, wrap1_dt]; rfl
theorem wrap1P_ok {p : Part} {d z : Nat} {rs : List Str} (h : DpOk p d z rs) (c : Int) (k : Nat) : DpOk (wrap1P c k p) (d + 1) (z + 3) rs := by
  obtain ⟨h1, h2, h3, h4⟩ := h
  subst h2
  subst h4
  have hp := Part.deep_pos p
  have ha : 97 ∈ codes := by decide
  unfold wrap1P
  split
  · exact ⟨by simp [Part.good, Part.goods, h1], by simp only [Part.deep, Part.deeps]; omega, by simp only [Part.size, Part.sizes]; omega, by simp [Part.rules, Part.ruless]⟩
  · split
    · exact ⟨by simp [Part.good, Part.goods, h1], by simp only [Part.deep, Part.deeps]; omega, by simp only [Part.size, Part.sizes]; omega, by simp [Part.rules, Part.ruless]⟩
    · split
      · exact ⟨by simp [Part.good, Part.goods, h1, ha], by simp only [Part.deep, Part.deeps]; omega, by simp only [Part.size, Part.sizes]; omega, by simp [Part.rules, Part.ruless]⟩
      · split
        · exact ⟨by simpa [Part.good] using h1, by simp [Part.deep], by simp only [Part.size]; omega, by simp [Part.rules]⟩
        · exact ⟨by simpa [Part.good] using h1, by simp [Part.deep], by simp only [Part.size]; omega, by simp [Part.rules]⟩
theorem wrapP_ok {p : Part} {d z : Nat} {rs : List Str} (h : DpOk p d z rs) (c : Int) : ∀ k, DpOk (wrapP c p k) (d + k) (z + 3 * k) rs
  | 0 => h
  | k + 1 => wrap1P_ok (wrapP_ok h c k) c k
/-- no part, at whatever depth that is let be -/
def NoPart (d : Dt) : Prop := ∀ n ≤ 12, isPartD n d = false
theorem noPart_wrap1 {d : Dt} (h : NoPart d) (c : Int) (t : Nat) : NoPart (wrap1 c t d) := fun n hn => by
  cases n with
  | zero => unfold wrap1; repeat (first | rfl | split)
  | succ n =>
    have h' := h n (by omega)
    unfold wrap1
    split
    · simp [isPartD, h']
    · split
      · simp [isPartD, h']
      · split
        · simp [isPartD, h']
        · split
          · simp [isPartD, h']
          · simp [isPartD, h']
theorem noPart_wrap {d : Dt} (h : NoPart d) (c : Int) : ∀ k, NoPart (wrapD c d k)
  | 0 => h
  | k + 1 => noPart_wrap1 (noPart_wrap h c k) c k
theorem noPart_deep {p : Part} {d z : Nat} {rs : List Str} (h : DpOk p d z rs) (hd : 12 < d) : NoPart p.dt := fun n hn => by
  cases e : isPartD n p.dt with
  | false => rfl
  | true =>
    obtain ⟨q, h1, h2, h3⟩ := isPart_inv n _ e
    cases dt_inj h1
    have := h.deep
    omega
/-! wrong parts -/
def wrongL (c : Nat) : List Dt :=
  [.tup [.str "sign", .str ""], .tup [.str "sign", .str (mk [c, c])], .tup [.str "sign", .int 7], .tup [.str "sign"], .tup [.str "sign", .str (sg c), .str (sg c)], .tup [.str "span", .str "b", .str "a"]]
  ++ [.tup [.str "span", .str (sg c)], .tup [.str "span", .str "", .str (sg c)], .tup [.str "span", .str (sg c), .str "zz"], .tup [.str "any", .str (sg c)], .tup [.str "or", .tup []]]
  ++ [.tup [.str "row", .lst [anyD]], .tup [.str "row"], .tup [.str "many"], .tup [.str "many", anyD, anyD], .tup [.str "not", .str "any"]]
  ++ [.tup [.str "rule", .int 5], .tup [.str "rule"], .tup [.str "star", .str (sg c)], .tup [], .non, .str (sg c), .lst [.str "any"], deepD anyD 12]
theorem wrongL_len (c : Nat) : (wrongL c).length = 24 := rfl
theorem star_ne : ("star" : Str) ≠ "row" ∧ ("star" : Str) ≠ "or" ∧ ("star" : Str) ≠ "many" ∧ ("star" : Str) ≠ "not" ∧ ("star" : Str) ≠ "any" ∧ ("star" : Str) ≠ "sign" ∧ ("star" : Str) ≠ "span" ∧ ("star" : Str) ≠ "rule" := by
  refine ⟨?_, ?_, ?_, ?_, ?_, ?_, ?_, ?_⟩ <;> decide +kernel
theorem noPart_wrong (c : Nat) : ∀ d ∈ wrongL c, NoPart d := by
  have s0 : isSignD (.str "") = false := by decide +kernel
  have s2 : isSignD (.str (mk [c, c])) = false := rfl
  have sz : isSignD (.str "zz") = false := by decide +kernel
  have ba : leD (.str "b") (.str "a") = false := by decide +kernel
  have si : isSignD (.int 7) = false := rfl
  obtain ⟨w1, w2, w3, w4, w5, w6, w7, w8⟩ := star_ne
  intro d hd n hn
  have h12 : NoPart (deepD anyD 12) := by
    have : anyD = Part.any.dt := by rw [Part.dt]
    rw [this, deepD_dt]
    exact noPart_deep (deepP_ok (p := .any) (d := 1) (z := 1) (rs := []) ⟨rfl, rfl, Nat.le_refl _, by simp [Part.rules]⟩ 12) (by decide)
  unfold wrongL at hd
  simp only [List.cons_append, List.nil_append, List.mem_cons, List.not_mem_nil, or_false] at hd
  cases n with
  | zero => rfl
  | succ n =>
    rcases hd with rfl | rfl | rfl | rfl | rfl | rfl | rfl | rfl | rfl | rfl | rfl | rfl | rfl | rfl | rfl | rfl | rfl | rfl | rfl | rfl | rfl | rfl | rfl | rfl
    case inr.inr.inr.inr.inr.inr.inr.inr.inr.inr.inr.inr.inr.inr.inr.inr.inr.inr.inr.inr.inr.inr.inr => exact h12 _ hn
    all_goals first
      | rfl
      | (simp [isPartD, isLeafD, s0, s2, sz, ba, si, w1, w2, w3, w4, w5, w6, w7, w8]; done)
      | (cases n <;> simp [isPartD, isLeafD, s0, s2, sz, ba, si, w1, w2, w3, w4, w5, w6, w7, w8])
/-! names -/
def names9 : List Dt := [.str "xbad", .str "", .str "abcdefghijklm", .str "a1", .str "aB", .str "a b", .int 5, .non, .str "xgood"]
/-! put in -/
def putIn {α : Type} (l : List α) (x : α) (c : Int) : List α := l.take (c % ((l.length : Nat) + 1 : Int)).toNat ++ x :: l.drop (c % ((l.length : Nat) + 1 : Int)).toNat
theorem putIn_perm {α : Type} (l : List α) (x : α) (c : Int) : (putIn l x c).Perm (x :: l) := by
  unfold putIn
  generalize (c % ((l.length : Nat) + 1 : Int)).toNat = k
  refine List.perm_middle.trans ?_
  rw [List.take_append_drop]
theorem putIn_map {α β : Type} (f : α → β) (l : List α) (x : α) (c : Int) : (putIn l x c).map f = putIn (l.map f) (f x) c := by
  unfold putIn
  rw [List.map_append, List.map_cons, List.map_take, List.map_drop, List.length_map]
def insIf {α : Type} (b : Bool) (l : List α) (x : α) (c : Int) : List α := if b = true then putIn l x c else l
theorem insIf_map {α β : Type} (f : α → β) (b : Bool) (l : List α) (x : α) (c : Int) : (insIf b l x c).map f = insIf b (l.map f) (f x) c := by
  unfold insIf
  split
  · exact putIn_map f l x c
  · rfl
theorem insIf_perm {α : Type} (b : Bool) (l : List α) (x : α) (c : Int) : (insIf b l x c).Perm ((if b = true then [x] else []) ++ l) := by
  unfold insIf
  split
  · exact putIn_perm l x c
  · exact .refl _
end G

set_option Elab.async false
set_option linter.all false
set_option maxRecDepth 100000
set_option maxHeartbeats 2000000
/-! The rules that law_k04 draws: what is true of them. -/
namespace G
open PySem PySem.Spec PyProof.Rows L2
/-! may be taken by the grammar, and compared -/
structure OkX (d : Dt) (n : Nat) : Prop where
  ok : okD d = true
  eq : eqOk d n
theorem OkX.mono {d : Dt} {n k : Nat} (h : OkX d n) (hk : n ≤ k) : OkX d k := ⟨h.ok, h.eq.mono hk⟩
theorem okX_str {s : Str} (hl : s.length ≤ 100000) (h : okT s = true) : OkX (.str s) 1 := ⟨okD_str hl, eqOk_str h⟩
theorem okX_lit {s : Str} (h : (decide (s.length ≤ 100000) && s.cps.all (· < 0x110000)) = true) : OkX (.str s) 1 := by
  rw [Bool.and_eq_true, decide_eq_true_eq] at h
  exact okX_str h.1 (by unfold okT; rw [PyData.canLay0]; exact h.2)
theorem okX_mk {l : List Nat} (hl : l.length ≤ 100000) (h : ∀ x ∈ l, x < 128) : OkX (.str (mk l)) 1 := okX_str hl (okT_lt h)
theorem okX_int (i : Int) : OkX (.int i) 1 := ⟨by rw [okD] <;> simp, ⟨by simp [clD], by simp [pyD, PyData.canLay0], by simp [pyD, PyData.depth]⟩⟩
theorem okX_non : OkX .non 1 := ⟨by rw [okD] <;> simp, ⟨by simp [clD], by simp [pyD, PyData.canLay0], by simp [pyD, PyData.depth]⟩⟩
theorem okXs {n : Nat} : ∀ {ds : List Dt}, (∀ d ∈ ds, OkX d n) → okDs ds = true ∧ eqOks ds n
  | [], _ => ⟨okDs_n, eqOks_nil⟩
  | d :: ds, h => by
    have h1 := h d List.mem_cons_self
    have h2 := okXs (ds := ds) fun x hx => h x (List.mem_cons_of_mem _ hx)
    exact ⟨okDs_c h1.ok h2.1, eqOks_cons h1.eq h2.2⟩
theorem okX_tup {ds : List Dt} {n : Nat} (h : ∀ d ∈ ds, OkX d n) (hl : ds.length ≤ 100000) : OkX (.tup ds) (n + 1) := ⟨okD_tup2 (okXs h).1 hl, eqOk_tup (okXs h).2⟩
theorem okX_lst {ds : List Dt} {n : Nat} (h : ∀ d ∈ ds, OkX d n) (hl : ds.length ≤ 100000) : OkX (.lst ds) (n + 1) := ⟨by rw [okD, (okXs h).1, decide_eq_true hl]; rfl, eqOk_lst (okXs h).2⟩
theorem all_cons {α : Type} {P : α → Prop} {a : α} {l : List α} (h : P a) (hl : ∀ x ∈ l, P x) : ∀ x ∈ a :: l, P x := fun x hx => by
  rcases List.mem_cons.mp hx with rfl | hx
  · exact h
  · exact hl x hx
theorem all_nil {α : Type} {P : α → Prop} : ∀ x ∈ ([] : List α), P x := fun x hx => nomatch hx
theorem okX_dt {p : Part} {n : Nat} (hg : p.good = true) (hs : p.size ≤ 100000) (hr : ∀ s ∈ p.rules, s.length ≤ 100000 ∧ okT s = true) (hn : 2 * p.deep + 1 ≤ n) : OkX p.dt n := ⟨okD_dt p hs fun s h => (hr s h).1, (eqOk_dt p hg fun s h => (hr s h).2).mono hn⟩
theorem okX_any : OkX anyD 2 := okX_tup (all_cons (okX_lit (by decide +kernel)) all_nil) (by first | decide | simp)
theorem okX_deep1 {d : Dt} {n : Nat} (h : OkX d (n + 2)) (k : Nat) : OkX (deep1 k d) (n + 4) := by
  have wn : OkX (.str "not") 1 := okX_lit (by decide +kernel)
  have wm : OkX (.str "many") 1 := okX_lit (by decide +kernel)
  have wr : OkX (.str "row") 1 := okX_lit (by decide +kernel)
  have wo : OkX (.str "or") 1 := okX_lit (by decide +kernel)
  have ha : OkX anyD (n + 2) := okX_any.mono (by omega)
  unfold deep1
  split
  · exact (okX_tup (n := n + 2) (all_cons (wn.mono (by omega)) (all_cons h all_nil)) (by first | decide | simp)).mono (by omega)
  · split
    · exact (okX_tup (n := n + 2) (all_cons (wm.mono (by omega)) (all_cons h all_nil)) (by first | decide | simp)).mono (by omega)
    · split
      · exact okX_tup (n := n + 3) (all_cons (wr.mono (by omega)) (all_cons (okX_tup (n := n + 2) (all_cons ha (all_cons h all_nil)) (by first | decide | simp)) all_nil)) (by first | decide | simp)
      · exact okX_tup (n := n + 3) (all_cons (wo.mono (by omega)) (all_cons (okX_tup (n := n + 2) (all_cons h (all_cons ha all_nil)) (by first | decide | simp)) all_nil)) (by first | decide | simp)
theorem okX_deep {d : Dt} {n : Nat} (h : OkX d (n + 2)) : ∀ k, OkX (deepD d k) (n + 2 + 2 * k)
  | 0 => h
  | k + 1 => by
    have := okX_deep1 (n := n + 2 * k) ((okX_deep h k).mono (by omega)) k
    exact this.mono (by omega)
theorem okX_wrap1 {d : Dt} {n : Nat} (h : OkX d (n + 2)) (c : Int) (k : Nat) : OkX (wrap1 c k d) (n + 4) := by
  have wn : OkX (.str "not") 1 := okX_lit (by decide +kernel)
  have wm : OkX (.str "many") 1 := okX_lit (by decide +kernel)
  have wr : OkX (.str "row") 1 := okX_lit (by decide +kernel)
  have wo : OkX (.str "or") 1 := okX_lit (by decide +kernel)
  have ws : OkX (.str "sign") 1 := okX_lit (by decide +kernel)
  have wa : OkX (.str (sg 97)) 1 := okX_mk (l := [97]) (by first | decide | simp) (by first | decide | simp)
  have ha : OkX anyD (n + 2) := okX_any.mono (by omega)
  unfold wrap1
  split
  · exact okX_tup (n := n + 3) (all_cons (wr.mono (by omega)) (all_cons (okX_tup (n := n + 2) (all_cons h (all_cons ha all_nil)) (by first | decide | simp)) all_nil)) (by first | decide | simp)
  · split
    · exact okX_tup (n := n + 3) (all_cons (wr.mono (by omega)) (all_cons (okX_tup (n := n + 2) (all_cons ha (all_cons h all_nil)) (by first | decide | simp)) all_nil)) (by first | decide | simp)
    · split
      · exact okX_tup (n := n + 3) (all_cons (wo.mono (by omega)) (all_cons (okX_tup (n := n + 2) (all_cons ((okX_tup (n := 1) (all_cons ws (all_cons wa all_nil)) (by first | decide | simp)).mono (by omega)) (all_cons h (all_cons ha all_nil))) (by first | decide | simp)) all_nil)) (by first | decide | simp)
      · split
        · exact (okX_tup (n := n + 2) (all_cons (wm.mono (by omega)) (all_cons h all_nil)) (by first | decide | simp)).mono (by omega)
        · exact (okX_tup (n := n + 2) (all_cons (wn.mono (by omega)) (all_cons h all_nil)) (by first | decide | simp)).mono (by omega)
theorem okX_wrap {d : Dt} {n : Nat} (h : OkX d (n + 2)) (c : Int) : ∀ k, OkX (wrapD c d k) (n + 2 + 2 * k)
  | 0 => h
  | k + 1 => by
    have := okX_wrap1 (n := n + 2 * k) ((okX_wrap h c k).mono (by omega)) c k
    exact this.mono (by omega)
theorem okX_wrong {c : Nat} (hc : c ∈ codes) : ∀ d ∈ wrongL c, OkX d 30 := by
  have hs : OkX (.str (sg c)) 1 := okX_mk (l := [c]) (by first | decide | simp) fun x hx => by simp at hx; subst hx; exact codes_lt _ hc
  have hs2 : OkX (.str (mk [c, c])) 1 := okX_mk (by first | decide | simp) fun x hx => by simp at hx; subst hx; exact codes_lt _ hc
  have t : ∀ ds : List Dt, (∀ d ∈ ds, OkX d 1) → ds.length ≤ 100000 → OkX (.tup ds) 30 := fun ds h hl => (okX_tup h hl).mono (by first | decide | simp)
  have t2 : ∀ ds : List Dt, (∀ d ∈ ds, OkX d 3) → ds.length ≤ 100000 → OkX (.tup ds) 30 := fun ds h hl => (okX_tup h hl).mono (by first | decide | simp)
  have w1 : OkX (.str "sign") 1 := okX_lit (by decide +kernel)
  have w2 : OkX (.str "span") 1 := okX_lit (by decide +kernel)
  have w3 : OkX (.str "any") 1 := okX_lit (by decide +kernel)
  have w4 : OkX (.str "row") 1 := okX_lit (by decide +kernel)
  have w5 : OkX (.str "or") 1 := okX_lit (by decide +kernel)
  have w6 : OkX (.str "many") 1 := okX_lit (by decide +kernel)
  have w7 : OkX (.str "not") 1 := okX_lit (by decide +kernel)
  have w8 : OkX (.str "rule") 1 := okX_lit (by decide +kernel)
  have w9 : OkX (.str "star") 1 := okX_lit (by decide +kernel)
  have e0 : OkX (.str "") 1 := okX_lit (by decide +kernel)
  have ea : OkX (.str "a") 1 := okX_lit (by decide +kernel)
  have eb : OkX (.str "b") 1 := okX_lit (by decide +kernel)
  have ez : OkX (.str "zz") 1 := okX_lit (by decide +kernel)
  have a3 : OkX anyD 3 := okX_any.mono (by first | decide | simp)
  have tn : OkX (.tup []) 3 := (okX_tup (n := 1) all_nil (by first | decide | simp)).mono (by first | decide | simp)
  have la : OkX (.lst [anyD]) 3 := okX_lst (n := 2) (all_cons okX_any all_nil) (by first | decide | simp)
  have e12 : OkX (deepD anyD 12) 30 := (okX_deep (n := 0) okX_any 12).mono (by first | decide | simp)
  unfold wrongL
  simp only [List.cons_append, List.nil_append]
  refine all_cons (t _ (all_cons w1 (all_cons e0 all_nil)) (by first | decide | simp)) ?_
  refine all_cons (t _ (all_cons w1 (all_cons hs2 all_nil)) (by first | decide | simp)) ?_
  refine all_cons (t _ (all_cons w1 (all_cons (okX_int 7) all_nil)) (by first | decide | simp)) ?_
  refine all_cons (t _ (all_cons w1 all_nil) (by first | decide | simp)) ?_
  refine all_cons (t _ (all_cons w1 (all_cons hs (all_cons hs all_nil))) (by first | decide | simp)) ?_
  refine all_cons (t _ (all_cons w2 (all_cons eb (all_cons ea all_nil))) (by first | decide | simp)) ?_
  refine all_cons (t _ (all_cons w2 (all_cons hs all_nil)) (by first | decide | simp)) ?_
  refine all_cons (t _ (all_cons w2 (all_cons e0 (all_cons hs all_nil))) (by first | decide | simp)) ?_
  refine all_cons (t _ (all_cons w2 (all_cons hs (all_cons ez all_nil))) (by first | decide | simp)) ?_
  refine all_cons (t _ (all_cons w3 (all_cons hs all_nil)) (by first | decide | simp)) ?_
  refine all_cons (t2 _ (all_cons (w5.mono (by first | decide | simp)) (all_cons tn all_nil)) (by first | decide | simp)) ?_
  refine all_cons (t2 _ (all_cons (w4.mono (by first | decide | simp)) (all_cons la all_nil)) (by first | decide | simp)) ?_
  refine all_cons (t _ (all_cons w4 all_nil) (by first | decide | simp)) ?_
  refine all_cons (t _ (all_cons w6 all_nil) (by first | decide | simp)) ?_
  refine all_cons (t2 _ (all_cons (w6.mono (by first | decide | simp)) (all_cons a3 (all_cons a3 all_nil))) (by first | decide | simp)) ?_
  refine all_cons (t _ (all_cons w7 (all_cons w3 all_nil)) (by first | decide | simp)) ?_
  refine all_cons (t _ (all_cons w8 (all_cons (okX_int 5) all_nil)) (by first | decide | simp)) ?_
  refine all_cons (t _ (all_cons w8 all_nil) (by first | decide | simp)) ?_
  refine all_cons (t _ (all_cons w9 (all_cons hs all_nil)) (by first | decide | simp)) ?_
  refine all_cons (tn.mono (by first | decide | simp)) ?_
  refine all_cons (okX_non.mono (by first | decide | simp)) ?_
  refine all_cons (hs.mono (by first | decide | simp)) ?_
  refine all_cons ((okX_lst (n := 1) (all_cons w3 all_nil) (by first | decide | simp)).mono (by first | decide | simp)) ?_
  exact all_cons e12 all_nil
theorem okX_names9 : ∀ d ∈ names9, OkX d 1 := by
  unfold names9
  refine all_cons (okX_lit (by decide +kernel)) (all_cons (okX_lit (by decide +kernel)) (all_cons (okX_lit (by decide +kernel)) (all_cons (okX_lit (by decide +kernel)) (all_cons (okX_lit (by decide +kernel)) (all_cons (okX_lit (by decide +kernel)) (all_cons (okX_int 5) (all_cons okX_non (all_cons (okX_lit (by decide +kernel)) all_nil))))))))
/-! how many parts a datum may be -/
mutual
def sizeD : Dt → Nat
  | .tup ds => sizeDs ds + 1
  | .lst ds => sizeDs ds + 1
  | _ => 0
def sizeDs : List Dt → Nat
  | [] => 0
  | d :: ds => sizeD d + sizeDs ds
end
mutual
theorem size_dt : ∀ p : Part, p.size ≤ sizeD p.dt
  | .sign c => by simp only [Part.dt, sizeD, Part.size]; omega
  | .span a b => by simp only [Part.dt, sizeD, Part.size]; omega
  | .any => by simp only [Part.dt, sizeD, Part.size]; omega
  | .row ps => by
    have := sizes_dts ps
    rw [Part.dt, sizeD, Part.size, sizeDs, sizeDs, sizeD]
    omega
  | .or ps => by
    have := sizes_dts ps
    rw [Part.dt, sizeD, Part.size, sizeDs, sizeDs, sizeD]
    omega
  | .many p => by
    have := size_dt p
    rw [Part.dt, sizeD, Part.size, sizeDs, sizeDs]
    omega
  | .not p => by
    have := size_dt p
    rw [Part.dt, sizeD, Part.size, sizeDs, sizeDs]
    omega
  | .rule s => by simp only [Part.dt, sizeD, Part.size]; omega
theorem sizes_dts : ∀ ps : List Part, Part.sizes ps ≤ sizeDs (Part.dts ps)
  | [] => by rw [Part.dts, sizeDs, Part.sizes]; exact Nat.le_refl _
  | p :: ps => by
    have := size_dt p
    have := sizes_dts ps
    rw [Part.dts, sizeDs, Part.sizes]
    omega
end
mutual
theorem dt_size : ∀ p : Part, sizeD p.dt ≤ 2 * p.size
  | .sign c => by simp only [Part.dt, sizeD, sizeDs, Part.size]; omega
  | .span a b => by simp only [Part.dt, sizeD, sizeDs, Part.size]; omega
  | .any => by simp only [Part.dt, sizeD, sizeDs, Part.size]; omega
  | .row ps => by
    have := dts_size ps
    rw [Part.dt, sizeD, Part.size, sizeDs, sizeDs, sizeD]
    simp only [sizeD, sizeDs]
    omega
  | .or ps => by
    have := dts_size ps
    rw [Part.dt, sizeD, Part.size, sizeDs, sizeDs, sizeD]
    simp only [sizeD, sizeDs]
    omega
  | .many p => by
    have := dt_size p
    rw [Part.dt, sizeD, Part.size, sizeDs, sizeDs]
    simp only [sizeD, sizeDs]
    omega
  | .not p => by
    have := dt_size p
    rw [Part.dt, sizeD, Part.size, sizeDs, sizeDs]
    simp only [sizeD, sizeDs]
    omega
  | .rule s => by simp only [Part.dt, sizeD, sizeDs, Part.size]; omega
theorem dts_size : ∀ ps : List Part, sizeDs (Part.dts ps) ≤ 2 * Part.sizes ps
  | [] => by rw [Part.dts, sizeDs]; exact Nat.zero_le _
  | p :: ps => by
    have := dt_size p
    have := dts_size ps
    rw [Part.dts, sizeDs, Part.sizes]
    omega
end
theorem sizeD_wrap1 (c : Int) (k : Nat) (d : Dt) : sizeD (wrap1 c k d) ≤ sizeD d + 4 := by
  unfold wrap1
  split
  · simp only [sizeD, sizeDs]; omega
  · split
    · simp only [sizeD, sizeDs]; omega
    · split
      · simp only [sizeD, sizeDs]; omega
      · split
        · simp only [sizeD, sizeDs]; omega
        · simp only [sizeD, sizeDs]; omega
theorem sizeD_wrap (c : Int) (d : Dt) : ∀ k, sizeD (wrapD c d k) ≤ sizeD d + 4 * k
  | 0 => Nat.le_refl _
  | k + 1 => by
    have h1 := sizeD_wrap1 c k (wrapD c d k)
    have h2 := sizeD_wrap c d k
    rw [wrapD]
    omega
theorem sizeD_wrong (c : Nat) : ∀ d ∈ wrongL c, sizeD d ≤ 60 := by
  intro d hd
  unfold wrongL at hd
  simp only [List.cons_append, List.nil_append, List.mem_cons, List.not_mem_nil, or_false] at hd
  rcases hd with rfl | rfl | rfl | rfl | rfl | rfl | rfl | rfl | rfl | rfl | rfl | rfl | rfl | rfl | rfl | rfl | rfl | rfl | rfl | rfl | rfl | rfl | rfl | rfl <;> simp [sizeD, sizeDs, deepD, deep1]
end G

set_option Elab.async false
set_option linter.all false
set_option maxRecDepth 100000
set_option maxHeartbeats 1000000
/-! The notes that law_k07 writes, wrong or not: one row. -/
namespace G
open PySem PySem.Spec PyProof.Rows L2
open TL (tl joinL)
theorem joinL_two7 (S : List Nat) (a : List Nat) {r : List (List Nat)} (h : r ≠ []) : joinL S (a :: r) = a ++ (S ++ joinL S r) := by
  cases r with
  | nil => exact absurd rfl h
  | cons b r => rfl
/-! a row that may be cut again -/
structure RowS (row : Str) (ws : List Str) : Prop where
  ne : ws ≠ []
  eq : row = Txt.join " " ws
  ok : ∀ w ∈ ws, WordOk w
  len : ws.length ≤ 200
theorem RowS.split {row : Str} {ws : List Str} (h : RowS row ws) : Txt.split row " " = ws := by
  rw [h.eq]
  exact TL.split_join sp_tl.1 sp_tl.2.2.1 h.ne fun w hw hc => ((h.ok w hw).2 32 hc).1 rfl
theorem RowS.nl {row : Str} {ws : List Str} (h : RowS row ws) : 10 ∉ tl row := fun hc => by
  rw [h.eq, TL.join_eq, TL.tl_join, sp_tl.1] at hc
  rcases mem_joinL hc with h1 | ⟨p, hp, h1⟩
  · simp at h1
  · obtain ⟨w, hw, rfl⟩ := List.mem_map.mp hp
    exact ((h.ok w hw).2 10 h1).2 rfl
theorem RowS.small {row : Str} {ws : List Str} (h : RowS row ws) : row.length ≤ 20200 := by
  rw [h.eq]
  have h1 := join_le " " ws
  have h2 := sum_le (k := 100) ws fun w hw => (h.ok w hw).1
  have h3 := h.len
  rw [sp_len.1] at h1
  generalize (ws.map fun t => t.length).sum = a at *
  generalize ws.length = b at *
  omega
/-- what comes of the words of a row -/
def rowW (ws : List Str) : Option (Str × Part) :=
  if ws.length < 3 ∨ ws.getD 0 "" = ("" : Str) ∨ ws.getD 1 "" ≠ ("=" : Str) then none else (partOf (ws.drop 2)).map fun p => (ws.getD 0 "", p)
theorem RowS.row {row : Str} {ws : List Str} (h : RowS row ws) : rowP row = rowW ws := by
  unfold rowP rowW
  rw [h.split]
/-! a rule that may be written -/
structure RuleW (r : Str × Part) : Prop where
  can : canW r.2 = true
  name : WordOk r.1
  ne : r.1 ≠ ("" : Str)
  words : ∀ w ∈ wordsP r.2, WordOk w
  len : (wordsP r.2).length ≤ 190
theorem RuleW.rowS {r : Str × Part} (h : RuleW r) : RowS (rowT r) (r.1 :: "=" :: wordsP r.2) where
  ne := by simp
  eq := rfl
  ok := fun w hw => by
    rcases List.mem_cons.mp hw with rfl | hw
    · exact h.name
    · rcases List.mem_cons.mp hw with rfl | hw
      · exact eq_word
      · exact h.words w hw
  len := by have := h.len; rw [List.length_cons, List.length_cons]; omega
theorem rowW_good {s : Str} {p : Part} (hs : s ≠ ("" : Str)) (hc : canW p = true) : rowW (s :: "=" :: wordsP p) = some (s, p) := by
  have h1 := words_pos p
  unfold rowW
  rw [if_neg (by
    rintro (h2 | h2 | h2)
    · rw [List.length_cons, List.length_cons] at h2; omega
    · exact hs h2
    · exact h2 rfl)]
  show (partOf (wordsP p)).map _ = _
  rw [partOf_words hc]
  rfl
theorem RuleW.back {r : Str × Part} (h : RuleW r) : rowP (rowT r) = some r := by rw [h.rowS.row, rowW_good h.ne h.can]
/-! what is read is of such words -/
def kws : List Str := ["any", "sign", "span", "rule", "many", "not", "row", "or"]
def goodAt (ws : List Str) (k : Nat) : Prop := ∃ w, ws[k]? = some w ∧ w ≠ ("" : Str) ∧ (w ∈ kws ∨ numW w ≠ none ∨ ∃ j, k = j + 1 ∧ ws[j]? = some ("rule" : Str))
theorem good_word {ws : List Str} {i : Nat} {w : Str} (h : wordAt ws i = some w) (hk : w ∈ kws ∨ numW w ≠ none ∨ ∃ j, i = j + 1 ∧ ws[j]? = some ("rule" : Str)) : goodAt ws i := ⟨w, (wordAt_lt h).1, (wordAt_lt h).2.1, hk⟩
theorem good_num {ws : List Str} {i n : Nat} (h : G.numAt ws i = some n) : goodAt ws i := by
  unfold G.numAt at h
  obtain ⟨w, hw, hn⟩ := Option.bind_eq_some_iff.mp h
  exact good_word hw (.inr (.inl (by rw [hn]; simp)))
theorem good_sign {ws : List Str} {i n : Nat} (h : signAt ws i = some n) : goodAt ws i := by
  unfold signAt at h
  obtain ⟨w, hw, _⟩ := Option.bind_eq_some_iff.mp h
  exact good_num hw
theorem leaf_good {ws : List Str} {i j : Nat} {p : Part} (h : leafAt ws i = some (some (p, j))) : ∀ k, i ≤ k → k < j → goodAt ws k := fun k h1 h2 => by
  unfold leafAt at h
  obtain ⟨w, hw, h⟩ := Option.bind_eq_some_iff.mp h
  split at h
  · rename_i e; cases h
    have : k = i := by omega
    subst this
    exact good_word hw (.inl (by rw [e]; simp [kws]))
  · split at h
    · rename_i e
      obtain ⟨c, hc, h⟩ := Option.map_eq_some_iff.mp h
      cases h
      rcases (by omega : k = i ∨ k = i + 1) with rfl | rfl
      · exact good_word hw (.inl (by rw [e]; simp [kws]))
      · exact good_sign hc
    · split at h
      · rename_i e
        obtain ⟨a, ha, h⟩ := Option.bind_eq_some_iff.mp h
        obtain ⟨c, hc, h⟩ := Option.map_eq_some_iff.mp h
        cases h
        rcases (by omega : k = i ∨ k = i + 1 ∨ k = i + 2) with rfl | rfl | rfl
        · exact good_word hw (.inl (by rw [e]; simp [kws]))
        · exact good_sign ha
        · exact good_sign hc
      · split at h
        · rename_i e
          obtain ⟨c, hc, h⟩ := Option.map_eq_some_iff.mp h
          cases h
          rcases (by omega : k = i ∨ k = i + 1) with rfl | rfl
          · exact good_word hw (.inl (by rw [e]; simp [kws]))
          · exact good_word hc (.inr (.inr ⟨i, rfl, by rw [(wordAt_lt hw).1, e]⟩))
        · cases h
theorem open_good {ws : List Str} {i j : Nat} {f : Op} (h : openAt ws i = some (f, j)) : ∀ k, i ≤ k → k < j → goodAt ws k := fun k h1 h2 => by
  unfold openAt at h
  obtain ⟨w, hw, h⟩ := Option.bind_eq_some_iff.mp h
  split at h
  · rename_i e; cases h
    have : k = i := by omega
    subst this
    exact good_word hw (.inl (by rcases e with e | e <;> rw [e] <;> simp [kws]))
  · split at h
    · rename_i e
      obtain ⟨c, hc, h⟩ := Option.map_eq_some_iff.mp h
      cases h
      rcases (by omega : k = i ∨ k = i + 1) with rfl | rfl
      · exact good_word hw (.inl (by rcases e with e | e <;> rw [e] <;> simp [kws]))
      · exact good_num hc
    · cases h
theorem step_good {ws : List Str} {i j : Nat} {st st' : List Op} (h : stepF ws i st = some (j, st')) : ∀ k, i ≤ k → k < j → goodAt ws k := by
  unfold stepF at h
  obtain ⟨o, ho, h⟩ := Option.bind_eq_some_iff.mp h
  cases o with
  | some pj =>
    cases h
    exact leaf_good ho
  | none =>
    obtain ⟨fj, hf, h⟩ := Option.map_eq_some_iff.mp h
    cases h
    exact open_good hf
theorem parse_good {ws : List Str} : ∀ (n i : Nat) (st : List Op) {j : Nat} {p : Part}, parseF ws n i st = some (j, p) → ∀ k, i ≤ k → k < j → goodAt ws k
  | 0, i, st, j, p, h => fun k h1 h2 => by
    rw [parseF] at h
    split at h
    · cases h; omega
    · cases h
  | n + 1, i, st, j, p, h => fun k h1 h2 => by
    rw [parseF] at h
    split at h
    · cases h; omega
    · obtain ⟨⟨i', st'⟩, hs, h⟩ := Option.bind_eq_some_iff.mp h
      by_cases hk : k < i'
      · exact step_good hs k h1 hk
      · exact parse_good n i' st' h k (by omega) h2
theorem partOf_good {ws : List Str} {p : Part} (h : partOf ws = some p) : ∀ k < ws.length, goodAt ws k := fun k hk => by
  unfold partOf at h
  obtain ⟨⟨i, q⟩, hq, h⟩ := Option.bind_eq_some_iff.mp h
  split at h
  · cases h
  · rename_i hi
    exact parse_good _ _ _ hq k (Nat.zero_le _) (by show k < i; have : ¬ i < ws.length := hi; omega)
/-- a word that cannot be read there -/
def badW (w : Str) : Prop := w = ("" : Str) ∨ (w ∉ kws ∧ numW w = none)
theorem partOf_bad {ws : List Str} {k : Nat} {w : Str} (h : ws[k]? = some w) (hw : badW w) (hr : ("rule" : Str) ∉ ws) : partOf ws = none := by
  cases e : partOf ws with
  | none => rfl
  | some p =>
    exfalso
    obtain ⟨w', h1, h2, h3⟩ := partOf_good e k (List.getElem?_eq_some_iff.mp h).1
    rw [h] at h1
    cases h1
    rcases hw with hw | ⟨hw1, hw2⟩
    · exact h2 hw
    · rcases h3 with h3 | h3 | ⟨j, _, h3⟩
      · exact hw1 h3
      · exact h3 hw2
      · exact hr (List.mem_of_getElem? h3)
theorem rowW_bad {ws : List Str} {k : Nat} {w : Str} (h : ws[k + 2]? = some w) (hw : badW w) (hr : ("rule" : Str) ∉ ws) : rowW ws = none := by
  unfold rowW
  split
  · rfl
  · rw [partOf_bad (k := k) (by rw [List.getElem?_drop, Nat.add_comm]; exact h) hw fun q => hr (List.mem_of_mem_drop q)]
    rfl
theorem rowW_eq {ws : List Str} (h : ws.getD 1 "" ≠ ("=" : Str)) : rowW ws = none := by
  unfold rowW
  rw [if_pos (.inr (.inr h))]
theorem rowW_none {ws : List Str} (h : partOf (ws.drop 2) = none) : rowW ws = none := by
  unfold rowW
  split
  · rfl
  · rw [h]; rfl
/-- what is left over -/
theorem partOf_left {p : Part} (h : canW p = true) {post : List Str} (hp : post ≠ []) : partOf (wordsP p ++ post) = none := by
  obtain ⟨k, h1, h2, h3⟩ := read_part p h (ws := wordsP p ++ post) (post := post) (i := 0) (st := start0) rfl (by decide) rfl
  unfold partOf
  rw [h3 _ (by rw [List.length_append]; omega), Nat.zero_add]
  have e : closeF (pushF p start0) = [(("whole", 1, [p]) : Op)] := by
    show closeF [(("whole", 1, [] ++ [p]) : Op)] = _
    rw [closeF_one]
    rfl
  rw [e]
  have e2 : ∀ n i, parseF (wordsP p ++ post) n i [(("whole", 1, [p]) : Op)] = some (i, p) := fun n i => by
    cases n <;> rfl
  rw [e2]
  have : 1 ≤ post.length := by cases post with | nil => exact absurd rfl hp | cons a b => simp
  exact if_pos (by rw [List.length_append]; omega)
/-- reading comes to an end where no step is left -/
theorem stuck_of {ws : List Str} {n i : Nat} {st : List Op} (hp : parseF ws ws.length 0 start0 = parseF ws n i st) (hd : doneF st = false) (hs : stepF ws i st = none) : partOf ws = none := by
  unfold partOf
  rw [hp]
  have : parseF ws n i st = none := by
    cases n with
    | zero => rw [parseF, if_neg (by rw [hd]; exact Bool.false_ne_true)]
    | succ n => rw [parseF, if_neg (by rw [hd]; exact Bool.false_ne_true), hs]; rfl
  rw [this]
  rfl
/-- one part more is read -/
theorem adv {ws post : List Str} {n i : Nat} {st : List Op} {p : Part} (hp : parseF ws ws.length 0 start0 = parseF ws n i st) (hc : canW p = true) (hd : doneF st = false) (hne : st ≠ []) (hw : ws.drop i = wordsP p ++ post) (hn : (wordsP p).length ≤ n) :
    ∃ n', n - (wordsP p).length ≤ n' ∧ parseF ws ws.length 0 start0 = parseF ws n' (i + (wordsP p).length) (closeF (pushF p st)) := by
  obtain ⟨k, h1, h2, h3⟩ := read_part p hc hd hne hw
  exact ⟨n - k, by omega, hp.trans (h3 n (by omega))⟩
/-- one opens -/
theorem adv_open {ws : List Str} {n i j : Nat} {st : List Op} {f : Op} (hp : parseF ws ws.length 0 start0 = parseF ws n i st) (hd : doneF st = false) (hl : leafAt ws i = some none) (ho : openAt ws i = some (f, j)) (hn : 1 ≤ n) :
    ∃ n', n - 1 ≤ n' ∧ parseF ws ws.length 0 start0 = parseF ws n' j (closeF (f :: st)) := by
  obtain ⟨m, rfl⟩ : ∃ m, n = m + 1 := ⟨n - 1, by omega⟩
  exact ⟨m, by omega, hp.trans (parse_step hd (step_open hl ho))⟩
/-! the row zz -/
def partZ (c lo hi : Nat) : Part := .row [.sign c, .many (.span lo hi), .or [.not .any, .row []]]
theorem num_eqs : numS 3 = "3" ∧ numS 2 = "2" ∧ numS 0 = "0" ∧ numS 4 = "4" := by decide +kernel
def wordsZ (c lo hi : Nat) : List Str := ["zz", "=", "row", "3", "sign", numS c, "many", "span", numS lo, numS hi, "or", "2", "not", "any", "row", "0"]
theorem wordsZ_eq (c lo hi : Nat) : wordsZ c lo hi = ("zz" : Str) :: ("=" : Str) :: wordsP (partZ c lo hi) := by
  unfold wordsZ partZ
  simp only [wordsP, wordsPs, List.length_cons, List.length_nil, List.nil_append, List.append_nil, List.cons_append]
  rw [show (0 + 1 + 1 + 1) = 3 from rfl, show (0 + 1 + 1) = 2 from rfl, num_eqs.1, num_eqs.2.1, num_eqs.2.2.1]
end G

set_option Elab.async false
set_option linter.all false
set_option maxRecDepth 100000
set_option maxHeartbeats 1000000
/-! The notes that law_k07 writes: the broken row. -/
namespace G
open PySem PySem.Spec PyProof.Rows L2
open TL (tl joinL)
abbrev rep (ws : List Str) (i : Nat) (x : Str) : List Str := ws.take i ++ [x] ++ ws.drop (i + 1)
def bads : List Str := ["37", "127", "07", "12345", "-1", "x", "1e1", "8"]
def spots : List Nat := [3, 5, 8, 9, 11, 15]
def places : List Nat := [5, 8, 9]
/-- the words where one is wrong -/
def brokenL (ws : List Str) (kind : Nat) (cell : Int) : List Str :=
  if kind < 8 then (if kind < 2 ∨ kind = 7 then rep ws (places.getD (cell % 3).toNat 0) (bads.getD kind "") else rep ws (spots.getD (cell % 6).toNat 0) (bads.getD kind ""))
  else if kind < 12 then ([ws.dropLast, ws.take (cell % 16).toNat ++ [("" : Str)] ++ ws.drop (cell % 16).toNat, ws ++ [("any" : Str)], ws ++ [("" : Str)]] : List (List Str)).getD (kind - 8) []
  else if kind < 16 then ws.take 3 ++ [(["2", "4", "3 ", "03"] : List Str).getD (kind - 12) ""] ++ ws.drop 4
  else if kind < 19 then ([ws.take 1 ++ ws.drop 2, ws.take 1 ++ [(":" : Str)] ++ ws.drop 2, [("" : Str)] ++ ws.drop 1] : List (List Str)).getD (kind - 16) []
  else ([ws.take 4 ++ [("Sign" : Str)] ++ ws.drop 5, ["zz", "="], ["zz", "=", "rule"]] : List (List Str)).getD (kind % 3) []
instance (w : Str) : Decidable (badW w) := by unfold badW; exact inferInstance
theorem numS_rule : ∀ n < 128, numS n ≠ "rule" := by decide +kernel
theorem bads_w : ∀ w ∈ bads, WordOk w ∧ w ≠ "rule" := by decide +kernel
theorem bads_b : badW "07" ∧ badW "12345" ∧ badW "-1" ∧ badW "x" ∧ badW "1e1" ∧ badW "03" ∧ badW "Sign" ∧ badW "" := by decide +kernel
theorem odd_n : numW "37" = some 37 ∧ numW "127" = some 127 ∧ numW "8" = some 8 ∧ 37 ∉ codes ∧ 127 ∉ codes ∧ 8 ∉ codes := by decide +kernel
section
variable {c lo hi : Nat}
structure CodesZ (c lo hi : Nat) : Prop where
  c : c ∈ codes
  lo : lo ∈ codes
  hi : hi ∈ codes
theorem canZ (h : CodesZ c lo hi) : canW (partZ c lo hi) = true := by
  unfold partZ
  simp [canW, canWs, h.c, h.lo, h.hi]
theorem wordsZ_ok (h : CodesZ c lo hi) : ∀ w ∈ wordsZ c lo hi, WordOk w ∧ w ≠ "rule" := by
  have n1 := nums_word c (code_lt h.c)
  have n2 := nums_word lo (code_lt h.lo)
  have n3 := nums_word hi (code_lt h.hi)
  have r1 := numS_rule c (code_lt h.c)
  have r2 := numS_rule lo (code_lt h.lo)
  have r3 := numS_rule hi (code_lt h.hi)
  have k : ∀ w ∈ (["zz", "=", "row", "3", "sign", "many", "span", "or", "2", "not", "any", "0"] : List Str), WordOk w ∧ w ≠ "rule" := by decide +kernel
  intro w hw
  unfold wordsZ at hw
  simp only [List.mem_cons, List.not_mem_nil, or_false] at hw
  rcases hw with rfl | rfl | rfl | rfl | rfl | rfl | rfl | rfl | rfl | rfl | rfl | rfl | rfl | rfl | rfl | rfl
  all_goals first
    | exact ⟨n1, r1⟩
    | exact ⟨n2, r2⟩
    | exact ⟨n3, r3⟩
    | exact k _ (by simp)
theorem wordsZ_len : (wordsZ c lo hi).length = 16 := rfl
/-- the words of a list that is made of these and of some more -/
theorem mem_cut {ws : List Str} {a b : Nat} {xs : List Str} {w : Str} (h : w ∈ ws.take a ++ xs ++ ws.drop b) : w ∈ ws ∨ w ∈ xs := by
  rw [List.mem_append, List.mem_append] at h
  rcases h with (h | h) | h
  · exact .inl (List.mem_of_mem_take h)
  · exact .inr h
  · exact .inl (List.mem_of_mem_drop h)
theorem sign_none {ws : List Str} {i n : Nat} {w : Str} (h : ws[i]? = some w) (hn : numW w = some n) (hc : n ∉ codes) : signAt ws i = none := by
  unfold signAt G.numAt wordAt
  rw [h]
  simp only
  split
  · rfl
  · rw [Option.bind_some, hn, Option.bind_some, if_neg hc]
theorem word_of {ws : List Str} {i : Nat} {w : Str} (h : ws[i]? = some w) (hw : w ≠ ("" : Str)) : wordAt ws i = some w := by
  unfold wordAt
  rw [h]
  exact if_neg hw
theorem sign_of {ws : List Str} {i n : Nat} (h : ws[i]? = some (numS n)) (hn : n ∈ codes) : signAt ws i = some n := by
  unfold signAt G.numAt
  rw [word_of h (num_back n (code_lt hn)).2, Option.bind_some, (num_back n (code_lt hn)).1, Option.bind_some, if_pos hn]
theorem row_open {ws : List Str} {i n : Nat} {w : Str} (hw : w = ("row" : Str) ∨ w = ("or" : Str)) (h : ws[i]? = some w) (h2 : ws[i + 1]? = some (numS n)) (hn : n < 128) : leafAt ws i = some none ∧ openAt ws i = some ((w, n, []), i + 2) := by
  have hne : w ≠ ("" : Str) := by rcases hw with rfl | rfl; exact w_ne.2.2.2.2.2.2.1; exact w_ne.2.2.2.2.2.2.2
  have e := word_of h hne
  have e2 : G.numAt ws (i + 1) = some n := by
    unfold G.numAt
    rw [word_of h2 (num_back n hn).2, Option.bind_some, (num_back n hn).1]
  refine ⟨?_, ?_⟩
  · unfold leafAt
    rw [e]
    rcases hw with rfl | rfl <;> simp
  · unfold openAt
    rw [e]
    rcases hw with rfl | rfl <;> simp [e2]
/-- where the third word of the row, and what stands behind, is to be read -/
theorem start_row {ws : List Str} {n : Nat} (h : ws[0]? = some ("row" : Str)) (h2 : ws[1]? = some (numS n)) (hn : n < 128) (h0 : 0 < n) (hl : 1 ≤ ws.length) : ∃ m, ws.length - 1 ≤ m ∧ parseF ws ws.length 0 start0 = parseF ws m 2 [(("row", n, []) : Op), ("whole", 1, [])] := by
  have o := row_open (.inl rfl) h h2 hn
  obtain ⟨m, h3, h4⟩ := adv_open (rfl : parseF ws ws.length 0 start0 = parseF ws ws.length 0 start0) rfl o.1 o.2 hl
  refine ⟨m, h3, ?_⟩
  rw [h4]
  have : closeF ((("row", n, []) : Op) :: start0) = [(("row", n, []) : Op), ("whole", 1, [])] := closeF_open (f := ("row", n, [])) (by show ¬ 0 = n; omega)
  rw [this]
theorem close_row {n : Nat} {ps : List Part} {p : Part} (h : ps.length + 1 < n) : closeF (pushF p [(("row", n, ps) : Op), ("whole", 1, [])]) = [(("row", n, ps ++ [p]) : Op), ("whole", 1, [])] :=
  closeF_open (f := ("row", n, ps ++ [p])) (by show ¬ (ps ++ [p]).length = n; rw [List.length_append, List.length_singleton]; omega)
theorem leaf_sign_none {ws : List Str} {i : Nat} (h : ws[i]? = some ("sign" : Str)) (hs : signAt ws (i + 1) = none) {st : List Op} : stepF ws i st = none := by
  unfold stepF leafAt
  rw [word_of h w_ne.2.1]
  simp [hs]
theorem leaf_span_none {ws : List Str} {i : Nat} (h : ws[i]? = some ("span" : Str)) (hs : signAt ws (i + 1) = none ∨ signAt ws (i + 2) = none) {st : List Op} : stepF ws i st = none := by
  unfold stepF leafAt
  rw [word_of h w_ne.2.2.1]
  rcases hs with hs | hs
  · simp [hs]
  · cases e : signAt ws (i + 1) <;> simp [hs, e]
theorem many_open {ws : List Str} {i : Nat} (h : ws[i]? = some ("many" : Str)) : leafAt ws i = some none ∧ openAt ws i = some ((("many", 1, []) : Op), i + 1) := by
  have e := word_of h w_ne.2.2.2.2.1
  refine ⟨?_, ?_⟩
  · unfold leafAt
    rw [e]
    simp
  · unfold openAt
    rw [e]
    simp
/-- a number that no sign has -/
theorem place_none (h : CodesZ c lo hi) {x : Str} {n : Nat} (hx : numW x = some n) (hc : n ∉ codes) : ∀ pl ∈ places, partOf ((rep (wordsZ c lo hi) pl x).drop 2) = none := by
  intro pl hpl
  unfold places at hpl
  simp only [List.mem_cons, List.not_mem_nil, or_false] at hpl
  have e3 : numS 3 = "3" := num_eqs.1
  rcases hpl with rfl | rfl | rfl
  · obtain ⟨m, h1, h2⟩ := start_row (ws := (rep (wordsZ c lo hi) 5 x).drop 2) (n := 3) rfl (by rw [e3]; rfl) (by decide) (by decide) (by show 1 ≤ 14; decide)
    exact stuck_of h2 rfl (leaf_sign_none rfl (sign_none (w := x) rfl hx hc))
  · obtain ⟨m, h1, h2⟩ := start_row (ws := (rep (wordsZ c lo hi) 8 x).drop 2) (n := 3) rfl (by rw [e3]; rfl) (by decide) (by decide) (by show 1 ≤ 14; decide)
    have h1' : 13 ≤ m := h1
    obtain ⟨m2, h3, h4⟩ := adv h2 (p := .sign c) (by rw [canW]; exact decide_eq_true h.c) rfl (by simp) (post := ((rep (wordsZ c lo hi) 8 x).drop 2).drop 4) (by rw [wordsP]; rfl) (by rw [wordsP]; show 2 ≤ m; omega)
    have h3' : m - 2 ≤ m2 := by rw [wordsP] at h3; exact h3
    have o := many_open (ws := (rep (wordsZ c lo hi) 8 x).drop 2) (i := 4) rfl
    rw [close_row (by decide)] at h4
    obtain ⟨m3, h5, h6⟩ := adv_open (h4.trans (by rw [wordsP]; rfl : _ = parseF _ m2 4 [(("row", 3, [] ++ [.sign c]) : Op), ("whole", 1, [])])) rfl o.1 o.2 (by omega)
    rw [closeF_open (by show ¬ 0 = 1; decide)] at h6
    exact stuck_of h6 rfl (leaf_span_none rfl (.inl (sign_none (w := x) rfl hx hc)))
  · obtain ⟨m, h1, h2⟩ := start_row (ws := (rep (wordsZ c lo hi) 9 x).drop 2) (n := 3) rfl (by rw [e3]; rfl) (by decide) (by decide) (by show 1 ≤ 14; decide)
    have h1' : 13 ≤ m := h1
    obtain ⟨m2, h3, h4⟩ := adv h2 (p := .sign c) (by rw [canW]; exact decide_eq_true h.c) rfl (by simp) (post := ((rep (wordsZ c lo hi) 9 x).drop 2).drop 4) (by rw [wordsP]; rfl) (by rw [wordsP]; show 2 ≤ m; omega)
    have h3' : m - 2 ≤ m2 := by rw [wordsP] at h3; exact h3
    have o := many_open (ws := (rep (wordsZ c lo hi) 9 x).drop 2) (i := 4) rfl
    rw [close_row (by decide)] at h4
    obtain ⟨m3, h5, h6⟩ := adv_open (h4.trans (by rw [wordsP]; rfl : _ = parseF _ m2 4 [(("row", 3, [] ++ [.sign c]) : Op), ("whole", 1, [])])) rfl o.1 o.2 (by omega)
    rw [closeF_open (by show ¬ 0 = 1; decide)] at h6
    exact stuck_of h6 rfl (leaf_span_none rfl (.inr (sign_none (w := x) rfl hx hc)))
end
end G

set_option Elab.async false
set_option linter.all false
set_option maxRecDepth 100000
set_option maxHeartbeats 1000000
/-! The notes that law_k07 writes: that the broken row is refused. -/
namespace G
open PySem PySem.Spec PyProof.Rows L2
open TL (tl joinL)
section
variable {c lo hi : Nat}
/-- a row that is refused -/
def Refused (row : Str) : Prop := ∃ ws, RowS row ws ∧ rowW ws = none
theorem refused_of {ws : List Str} (hne : ws ≠ []) (hok : ∀ w ∈ ws, WordOk w) (hl : ws.length ≤ 200) (h : rowW ws = none) : Refused (Txt.join " " ws) := ⟨ws, ⟨hne, rfl, hok, hl⟩, h⟩
theorem cut_ok (h : CodesZ c lo hi) {a b : Nat} {xs : List Str} (hx : ∀ w ∈ xs, WordOk w ∧ w ≠ "rule") : ∀ w ∈ (wordsZ c lo hi).take a ++ xs ++ (wordsZ c lo hi).drop b, WordOk w ∧ w ≠ "rule" := fun w hw => by
  rcases mem_cut hw with h1 | h1
  · exact wordsZ_ok h w h1
  · exact hx w h1
theorem cut_len {a b : Nat} {xs : List Str} (hx : xs.length ≤ 5) : ((wordsZ c lo hi).take a ++ xs ++ (wordsZ c lo hi).drop b).length ≤ 200 := by
  rw [List.length_append, List.length_append, List.length_take, List.length_drop, wordsZ_len]
  omega
/-- one word that can't be read -/
theorem cut_bad (h : CodesZ c lo hi) {a b : Nat} {x : Str} {xs : List Str} (ha : a ≤ 16) (h2 : 2 ≤ a) (hx : ∀ w ∈ x :: xs, WordOk w ∧ w ≠ "rule") (hl : xs.length ≤ 4) (hb : badW x) : Refused (Txt.join " " ((wordsZ c lo hi).take a ++ (x :: xs) ++ (wordsZ c lo hi).drop b)) := by
  have hok := cut_ok h (a := a) (b := b) hx
  refine refused_of (by simp) (fun w hw => (hok w hw).1) (cut_len (by rw [List.length_cons]; omega)) ?_
  refine rowW_bad (k := a - 2) (w := x) ?_ hb (fun q => (hok _ q).2 rfl)
  rw [show a - 2 + 2 = a by omega, List.append_assoc, List.getElem?_append_right (by rw [List.length_take, wordsZ_len]; omega), List.length_take, wordsZ_len, Nat.min_eq_left ha, Nat.sub_self]
  rfl
theorem zz_ne : ("zz" : Str) ≠ "" := by decide +kernel
theorem eq_ne : ("row" : Str) ≠ "=" ∧ (":" : Str) ≠ "=" ∧ ("" : Str) ≠ "=" := by decide +kernel
theorem missing_row (h : CodesZ c lo hi) : partOf (((wordsZ c lo hi).dropLast).drop 2) = none := by
  have e3 : numS 3 = "3" := num_eqs.1
  have e2 : numS 2 = "2" := num_eqs.2.1
  obtain ⟨m, h1, h2⟩ := start_row (ws := ((wordsZ c lo hi).dropLast).drop 2) (n := 3) rfl (by rw [e3]; rfl) (by decide) (by decide) (by show 1 ≤ 13; decide)
  have h1' : 12 ≤ m := h1
  obtain ⟨m2, h3, h4⟩ := adv h2 (p := .sign c) (by rw [canW]; exact decide_eq_true h.c) rfl (by simp) (post := (((wordsZ c lo hi).dropLast).drop 2).drop 4) (by rw [wordsP]; rfl) (by rw [wordsP]; show 2 ≤ m; omega)
  have h3' : m - 2 ≤ m2 := by rw [wordsP] at h3; exact h3
  rw [close_row (by simp)] at h4
  have h4' : parseF _ _ 0 start0 = parseF (((wordsZ c lo hi).dropLast).drop 2) m2 4 [(("row", 3, [] ++ [.sign c]) : Op), ("whole", 1, [])] := h4.trans (by rw [wordsP]; rfl)
  obtain ⟨m3, h5, h6⟩ := adv h4' (p := .many (.span lo hi)) (by simp [canW, h.lo, h.hi]) rfl (by simp) (post := (((wordsZ c lo hi).dropLast).drop 2).drop 8) (by rw [wordsP, wordsP]; rfl) (by rw [wordsP, wordsP]; show 4 ≤ m2; omega)
  have h5' : m2 - 4 ≤ m3 := by rw [wordsP, wordsP] at h5; exact h5
  rw [close_row (by simp)] at h6
  have h6' : parseF _ _ 0 start0 = parseF (((wordsZ c lo hi).dropLast).drop 2) m3 8 [(("row", 3, ([] ++ [.sign c]) ++ [.many (.span lo hi)]) : Op), ("whole", 1, [])] := h6.trans (by rw [wordsP, wordsP]; rfl)
  have o := row_open (ws := ((wordsZ c lo hi).dropLast).drop 2) (i := 8) (n := 2) (.inr rfl) rfl (by rw [e2]; rfl) (by decide)
  obtain ⟨m4, h7, h8⟩ := adv_open h6' rfl o.1 o.2 (by omega)
  rw [closeF_open (by show ¬ 0 = 2; decide)] at h8
  obtain ⟨m5, h9, h10⟩ := adv h8 (p := .not .any) (by simp [canW]) rfl (by simp) (post := (((wordsZ c lo hi).dropLast).drop 2).drop 12) (by rw [wordsP, wordsP]; rfl) (by rw [wordsP, wordsP]; show 2 ≤ m4; omega)
  have e10 : closeF (pushF (.not .any) [(("or", 2, []) : Op), (("row", 3, ([] ++ [.sign c]) ++ [.many (.span lo hi)]) : Op), ("whole", 1, [])]) = [(("or", 2, [.not .any]) : Op), (("row", 3, ([] ++ [.sign c]) ++ [.many (.span lo hi)]) : Op), ("whole", 1, [])] := closeF_open (f := ("or", 2, [.not .any])) (by show ¬ 1 = 2; decide)
  rw [e10] at h10
  have h10' : parseF _ _ 0 start0 = parseF (((wordsZ c lo hi).dropLast).drop 2) m5 12 [(("or", 2, [.not .any]) : Op), (("row", 3, ([] ++ [.sign c]) ++ [.many (.span lo hi)]) : Op), ("whole", 1, [])] := h10.trans (by rw [wordsP, wordsP]; rfl)
  refine stuck_of h10' rfl ?_
  have ew : wordAt (((wordsZ c lo hi).dropLast).drop 2) 12 = some ("row" : Str) := word_of rfl w_ne.2.2.2.2.2.2.1
  have en : G.numAt (((wordsZ c lo hi).dropLast).drop 2) 13 = none := rfl
  unfold stepF leafAt
  rw [ew]
  simp only [Option.bind_some]
  unfold openAt
  rw [ew]
  simp [en]
theorem four_rows (h : CodesZ c lo hi) : partOf (((wordsZ c lo hi).take 3 ++ [("4" : Str)] ++ (wordsZ c lo hi).drop 4).drop 2) = none := by
  have e4 : numS 4 = "4" := num_eqs.2.2.2
  have e2 : numS 2 = "2" := num_eqs.2.1
  have e0 : numS 0 = "0" := num_eqs.2.2.1
  let ws : List Str := ((wordsZ c lo hi).take 3 ++ [("4" : Str)] ++ (wordsZ c lo hi).drop 4).drop 2
  show partOf ws = none
  obtain ⟨m, h1, h2⟩ := start_row (ws := ws) (n := 4) rfl (by rw [e4]; rfl) (by decide) (by decide) (by show 1 ≤ 14; decide)
  have h1' : 13 ≤ m := h1
  obtain ⟨m2, h3, h4⟩ := adv h2 (p := .sign c) (by rw [canW]; exact decide_eq_true h.c) rfl (by simp) (post := ws.drop 4) (by rw [wordsP]; rfl) (by rw [wordsP]; show 2 ≤ m; omega)
  have h3' : m - 2 ≤ m2 := by rw [wordsP] at h3; exact h3
  rw [close_row (by simp)] at h4
  have h4' : parseF _ _ 0 start0 = parseF ws m2 4 [(("row", 4, [] ++ [.sign c]) : Op), ("whole", 1, [])] := h4.trans (by rw [wordsP]; rfl)
  obtain ⟨m3, h5, h6⟩ := adv h4' (p := .many (.span lo hi)) (by simp [canW, h.lo, h.hi]) rfl (by simp) (post := ws.drop 8) (by rw [wordsP, wordsP]; rfl) (by rw [wordsP, wordsP]; show 4 ≤ m2; omega)
  have h5' : m2 - 4 ≤ m3 := by rw [wordsP, wordsP] at h5; exact h5
  rw [close_row (by simp)] at h6
  have h6' : parseF _ _ 0 start0 = parseF ws m3 8 [(("row", 4, ([] ++ [.sign c]) ++ [.many (.span lo hi)]) : Op), ("whole", 1, [])] := h6.trans (by rw [wordsP, wordsP]; rfl)
  have ew : wordsP (.or [.not .any, .row []]) = [("or" : Str), "2", "not", "any", "row", "0"] := by
    simp only [wordsP, wordsPs, List.length_cons, List.length_nil, List.nil_append, List.append_nil, List.cons_append]
    rw [show (0 + 1 + 1) = 2 from rfl, e2, e0]
  obtain ⟨m4, h7, h8⟩ := adv h6' (p := .or [.not .any, .row []]) (by simp [canW, canWs]) rfl (by simp) (post := []) (by rw [ew]; rfl) (by rw [ew]; show 6 ≤ m3; omega)
  rw [close_row (by simp)] at h8
  have h8' : parseF _ _ 0 start0 = parseF ws m4 14 [(("row", 4, (([] ++ [.sign c]) ++ [.many (.span lo hi)]) ++ [.or [.not .any, .row []]]) : Op), ("whole", 1, [])] := h8.trans (by rw [ew]; rfl)
  refine stuck_of h8' rfl ?_
  have e : wordAt ws 14 = none := rfl
  unfold stepF leafAt
  rw [e]
  rfl
theorem join_three (a b : List Str) : Txt.join " " (a ++ [("3 " : Str)] ++ b) = Txt.join " " (a ++ [("3" : Str), ""] ++ b) := TL.ext_tl (by
  rw [TL.join_eq, TL.join_eq, TL.tl_join, TL.tl_join, sp_tl.1, List.map_append, List.map_append, List.map_append, List.map_append]
  have e : tl ("3 " : Str) = joinL [32] [tl ("3" : Str), tl ("" : Str)] := by decide +kernel
  have key : ∀ (a r : List (List Nat)) (x y : List Nat), joinL [32] (a ++ (joinL [32] [x, y] :: r)) = joinL [32] (a ++ (x :: y :: r)) := fun a r x y => by
    induction a with
    | nil =>
      rw [List.nil_append, List.nil_append]
      cases r with
      | nil => rfl
      | cons z r =>
        show (x ++ ([32] ++ y)) ++ ([32] ++ joinL [32] (z :: r)) = x ++ ([32] ++ (y ++ ([32] ++ joinL [32] (z :: r))))
        simp [List.append_assoc]
    | cons w a ih =>
      rw [List.cons_append, List.cons_append, joinL_two7 _ w (by simp), joinL_two7 _ w (by simp), ih]
  rw [List.append_assoc, List.append_assoc]
  show joinL [32] (a.map tl ++ (tl ("3 " : Str) :: b.map tl)) = joinL [32] (a.map tl ++ (tl ("3" : Str) :: tl ("" : Str) :: b.map tl))
  rw [e]
  exact key _ _ _ _)
theorem w_extra : (WordOk "" ∧ ("" : Str) ≠ "rule") ∧ (WordOk "any" ∧ ("any" : Str) ≠ "rule") ∧ (WordOk "2" ∧ ("2" : Str) ≠ "rule") ∧ (WordOk "4" ∧ ("4" : Str) ≠ "rule") ∧ (WordOk "3" ∧ ("3" : Str) ≠ "rule") ∧ (WordOk "03" ∧ ("03" : Str) ≠ "rule") ∧ (WordOk ":" ∧ (":" : Str) ≠ "rule") ∧ (WordOk "Sign" ∧ ("Sign" : Str) ≠ "rule") := by decide +kernel
theorem one_w {x : Str} (h : WordOk x ∧ x ≠ "rule") : ∀ w ∈ [x], WordOk w ∧ w ≠ "rule" := fun w hw => by rw [List.mem_singleton] at hw; subst hw; exact h
theorem two_rows (h : CodesZ c lo hi) : partOf (((wordsZ c lo hi).take 3 ++ [("2" : Str)] ++ (wordsZ c lo hi).drop 4).drop 2) = none := by
  have e2 : numS 2 = "2" := num_eqs.2.1
  have e : ((wordsZ c lo hi).take 3 ++ [("2" : Str)] ++ (wordsZ c lo hi).drop 4).drop 2 = wordsP (.row [.sign c, .many (.span lo hi)]) ++ (wordsZ c lo hi).drop 10 := by
    simp only [wordsP, wordsPs, List.length_cons, List.length_nil, List.nil_append, List.append_nil, List.cons_append]
    rw [show (0 + 1 + 1) = 2 from rfl, e2]
    rfl
  rw [e]
  exact partOf_left (by simp [canW, canWs, h.c, h.lo, h.hi]) (by simp [wordsZ])
theorem broken_refused (h : CodesZ c lo hi) {kind : Nat} (hk : kind < 22) (cell : Int) : Refused (Txt.join " " (brokenL (wordsZ c lo hi) kind cell)) := by
  have g3 := Int.emod_nonneg cell (show (3 : Int) ≠ 0 by decide)
  have l3 := Int.emod_lt_of_pos cell (show (0 : Int) < 3 by decide)
  have g6 := Int.emod_nonneg cell (show (6 : Int) ≠ 0 by decide)
  have l6 := Int.emod_lt_of_pos cell (show (0 : Int) < 6 by decide)
  have g16 := Int.emod_nonneg cell (show (16 : Int) ≠ 0 by decide)
  have l16 := Int.emod_lt_of_pos cell (show (0 : Int) < 16 by decide)
  have hall := wordsZ_ok h
  have hpl : places.getD (cell % 3).toNat 0 ∈ places := by
    rw [List.getD_eq_getElem?_getD, List.getElem?_eq_getElem (show (cell % 3).toNat < places.length by show _ < 3; omega)]
    exact List.getElem_mem _
  have hsp : spots.getD (cell % 6).toNat 0 ∈ spots := by
    rw [List.getD_eq_getElem?_getD, List.getElem?_eq_getElem (show (cell % 6).toNat < spots.length by show _ < 6; omega)]
    exact List.getElem_mem _
  have hsl : ∀ s ∈ spots, s ≤ 16 ∧ 2 ≤ s := by decide
  have plc : ∀ {x : Str} {n : Nat}, (WordOk x ∧ x ≠ "rule") → numW x = some n → n ∉ codes → Refused (Txt.join " " (rep (wordsZ c lo hi) (places.getD (cell % 3).toNat 0) x)) := fun hx hn hc =>
    refused_of (by simp) (fun w hw => (cut_ok h (one_w hx) w hw).1) (cut_len (by simp)) (rowW_none (place_none h hn hc _ hpl))
  have spt : ∀ {x : Str}, (WordOk x ∧ x ≠ "rule") → badW x → Refused (Txt.join " " (rep (wordsZ c lo hi) (spots.getD (cell % 6).toNat 0) x)) := fun hx hb => cut_bad h (hsl _ hsp).1 (hsl _ hsp).2 (one_w hx) (by simp) hb
  obtain ⟨b1, b2, b3, b4, b5, b6, b7, b8⟩ := bads_b
  obtain ⟨o1, o2, o3, o4, o5, o6⟩ := odd_n
  obtain ⟨x1, x2, x3, x4, x5, x6, x7, x8⟩ := w_extra
  match kind, hk with
  | 0, _ => exact plc (bads_w "37" (by simp [bads])) o1 o4
  | 1, _ => exact plc (bads_w "127" (by simp [bads])) o2 o5
  | 2, _ => exact spt (bads_w "07" (by simp [bads])) b1
  | 3, _ => exact spt (bads_w "12345" (by simp [bads])) b2
  | 4, _ => exact spt (bads_w "-1" (by simp [bads])) b3
  | 5, _ => exact spt (bads_w "x" (by simp [bads])) b4
  | 6, _ => exact spt (bads_w "1e1" (by simp [bads])) b5
  | 7, _ => exact plc (bads_w "8" (by simp [bads])) o3 o6
  | 8, _ => exact refused_of (ws := (wordsZ c lo hi).dropLast) (by simp [wordsZ]) (fun w hw => (hall w (List.dropLast_subset _ hw)).1) (by show 15 ≤ 200; decide) (rowW_none (missing_row h))
  | 9, _ =>
    show Refused (Txt.join " " ((wordsZ c lo hi).take (cell % 16).toNat ++ [("" : Str)] ++ (wordsZ c lo hi).drop (cell % 16).toNat))
    generalize hat : (cell % 16).toNat = a
    have ha : a < 16 := by omega
    match a, ha with
    | 0, _ => exact refused_of (by simp) (fun w hw => (cut_ok h (one_w x1) w hw).1) (cut_len (by simp)) (by unfold rowW; exact if_pos (.inr (.inl rfl)))
    | 1, _ => exact refused_of (by simp) (fun w hw => (cut_ok h (one_w x1) w hw).1) (cut_len (by simp)) (rowW_eq eq_ne.2.2)
    | a + 2, ha => exact cut_bad h (by omega) (by omega) (one_w x1) (by simp) b8
  | 10, _ =>
    refine refused_of (ws := wordsZ c lo hi ++ [("any" : Str)]) (by simp) (fun w hw => ?_) (by rw [List.length_append, wordsZ_len]; decide) (rowW_none ?_)
    · rcases List.mem_append.mp hw with hw | hw
      · exact (hall w hw).1
      · exact (one_w x2 w hw).1
    · rw [wordsZ_eq]
      exact partOf_left (canZ h) (by simp)
  | 11, _ =>
    have := cut_bad h (a := 16) (b := 16) (Nat.le_refl _) (by decide) (one_w x1) (by simp) b8
    exact this
  | 12, _ => exact refused_of (ws := (wordsZ c lo hi).take 3 ++ [("2" : Str)] ++ (wordsZ c lo hi).drop 4) (by simp) (fun w hw => (cut_ok h (one_w x3) w hw).1) (cut_len (by simp)) (rowW_none (two_rows h))
  | 13, _ => exact refused_of (ws := (wordsZ c lo hi).take 3 ++ [("4" : Str)] ++ (wordsZ c lo hi).drop 4) (by simp) (fun w hw => (cut_ok h (one_w x4) w hw).1) (cut_len (by simp)) (rowW_none (four_rows h))
  | 14, _ =>
    show Refused (Txt.join " " ((wordsZ c lo hi).take 3 ++ [("3 " : Str)] ++ (wordsZ c lo hi).drop 4))
    rw [join_three]
    have hx : ∀ w ∈ [("3" : Str), ""], WordOk w ∧ w ≠ "rule" := fun w hw => by
      rcases List.mem_cons.mp hw with rfl | hw
      · exact x5
      · exact one_w x1 w hw
    have hok := cut_ok h (a := 3) (b := 4) hx
    exact refused_of (by simp) (fun w hw => (hok w hw).1) (cut_len (by simp)) (rowW_bad (k := 2) (w := "") rfl b8 fun q => (hok _ q).2 rfl)
  | 15, _ => exact cut_bad h (a := 3) (b := 4) (by decide) (by decide) (one_w x6) (by simp) b6
  | 16, _ => exact refused_of (ws := (wordsZ c lo hi).take 1 ++ (wordsZ c lo hi).drop 2) (by simp [wordsZ]) (fun w hw => by
      rcases List.mem_append.mp hw with hw | hw
      · exact (hall w (List.mem_of_mem_take hw)).1
      · exact (hall w (List.mem_of_mem_drop hw)).1) (by show 15 ≤ 200; decide) (rowW_eq eq_ne.1)
  | 17, _ => exact refused_of (ws := (wordsZ c lo hi).take 1 ++ [(":" : Str)] ++ (wordsZ c lo hi).drop 2) (by simp) (fun w hw => (cut_ok h (a := 1) (b := 2) (one_w x7) w hw).1) (cut_len (by simp)) (rowW_eq eq_ne.2.1)
  | 18, _ => exact refused_of (ws := [("" : Str)] ++ (wordsZ c lo hi).drop 1) (by simp) (fun w hw => by
      rcases List.mem_append.mp hw with hw | hw
      · exact (one_w x1 w hw).1
      · exact (hall w (List.mem_of_mem_drop hw)).1) (by show 16 ≤ 200; decide) (by unfold rowW; exact if_pos (.inr (.inl rfl)))
  | 19, _ => exact refused_of (ws := [("zz" : Str), "="]) (by simp) (by decide +kernel) (by decide) (by unfold rowW; exact if_pos (.inl (by decide)))
  | 20, _ => exact refused_of (ws := [("zz" : Str), "=", "rule"]) (by simp) (by decide +kernel) (by decide) (rowW_none (by
      have e : wordAt [("rule" : Str)] 0 = some ("rule" : Str) := word_of rfl w_ne.2.2.2.1
      have e1 : wordAt [("rule" : Str)] 1 = none := rfl
      refine stuck_of (ws := [("rule" : Str)]) (n := 1) (i := 0) (st := start0) rfl rfl ?_
      unfold stepF leafAt
      rw [e]
      simp [e1]))
  | 21, _ => exact cut_bad h (a := 4) (b := 5) (by decide) (by decide) (one_w x8) (by simp) b7
  | n + 22, hk => omega
/-! a number with a sign, a tab for a blank -/
def signedL (ws : List Str) (kind : Nat) (cell : Int) : List Str :=
  if kind < 33 then rep ws (([5, 8, 9, 3] : List Nat).getD (cell % 4).toNat 0) ((["+97", "9_7", "0x9"] : List Str).getD (kind % 3) "")
  else ws.take (cell % 15).toNat ++ [ws.getD (cell % 15).toNat "" ++ "\t" ++ ws.getD ((cell % 15).toNat + 1) ""] ++ ws.drop ((cell % 15).toNat + 2)
end
end G

set_option Elab.async false
set_option linter.all false
set_option maxRecDepth 100000
set_option maxHeartbeats 1000000
/-! The notes that law_k07 writes: a number with a sign, a tab for a blank. -/
namespace G
open PySem PySem.Spec PyProof.Rows L2
open TL (tl joinL)
section
variable {c lo hi : Nat}
theorem signs_bad : ∀ w ∈ (["+97", "9_7", "0x9"] : List Str), (WordOk w ∧ w ≠ "rule") ∧ badW w := by decide +kernel
theorem tl_add (a b : Str) : (a ++ b).cps.toList = a.cps.toList ++ b.cps.toList := by
  show (a.cps ++ b.cps).toList = _
  simp
theorem tab_eq : tl ("\t" : Str) = [9] := by decide +kernel
theorem kws_tab : ∀ w ∈ kws, 9 ∉ w.cps.toList := by decide +kernel
theorem fig_tab : 9 ∉ digitsS.cps.toList ∧ (("rule" : Str)).cps.toList.contains 9 = false ∧ (("=" : Str)).cps.toList.contains 9 = false := by decide +kernel
theorem tab_bad {w : Str} (h : 9 ∈ w.cps.toList) : badW w := by
  refine .inr ⟨fun q => kws_tab w q h, ?_⟩
  unfold numW
  rw [if_pos]
  refine .inr (.inl ?_)
  unfold isFig
  rw [List.all_eq_false]
  exact ⟨9, h, fun q => fig_tab.1 (of_decide_eq_true q)⟩
theorem words_four (h : CodesZ c lo hi) : ∀ w ∈ wordsZ c lo hi, w.length ≤ 4 := by
  have n : ∀ n < 128, (numS n).length ≤ 4 := by decide +kernel
  have n1 := n c (code_lt h.c)
  have n2 := n lo (code_lt h.lo)
  have n3 := n hi (code_lt h.hi)
  clear n
  have k : ∀ w ∈ (["zz", "=", "row", "3", "sign", "many", "span", "or", "2", "not", "any", "0"] : List Str), w.length ≤ 4 := by decide +kernel
  intro w hw
  unfold wordsZ at hw
  simp only [List.mem_cons, List.not_mem_nil, or_false] at hw
  rcases hw with rfl | rfl | rfl | rfl | rfl | rfl | rfl | rfl | rfl | rfl | rfl | rfl | rfl | rfl | rfl | rfl
  all_goals first
    | exact n1
    | exact n2
    | exact n3
    | exact k _ (by simp)
theorem tab_word {a b : Str} (ha : WordOk a) (hb : WordOk b) (la : a.length ≤ 4) (lb : b.length ≤ 4) : (WordOk (a ++ "\t" ++ b) ∧ a ++ "\t" ++ b ≠ ("rule" : Str)) ∧ 9 ∈ (a ++ "\t" ++ b).cps.toList := by
  have e : (a ++ "\t" ++ b).cps.toList = a.cps.toList ++ [9] ++ b.cps.toList := by
    rw [tl_add, tl_add]
    rw [show (("\t" : Str)).cps.toList = [9] from tab_eq]
  have h9 : 9 ∈ (a ++ "\t" ++ b).cps.toList := by rw [e]; simp
  refine ⟨⟨⟨?_, fun x hx => ?_⟩, fun q => ?_⟩, h9⟩
  · have : (a ++ "\t" ++ b).length = (a ++ "\t" ++ b).cps.toList.length := Array.length_toList.symm
    rw [this, e, List.length_append, List.length_append]
    have h1 : a.cps.toList.length = a.length := Array.length_toList
    have h2 : b.cps.toList.length = b.length := Array.length_toList
    rw [h1, h2, List.length_singleton]
    omega
  · rw [e, List.mem_append, List.mem_append, List.mem_singleton] at hx
    rcases hx with (hx | hx) | hx
    · exact ha.2 x hx
    · subst hx; decide
    · exact hb.2 x hx
  · rw [q] at h9
    have := fig_tab.2.1
    rw [List.contains_iff_mem.mpr h9] at this
    cases this
theorem signed_refused (h : CodesZ c lo hi) {kind : Nat} (hk : kind < 35) (cell : Int) : Refused (Txt.join " " (signedL (wordsZ c lo hi) kind cell)) := by
  have g4 := Int.emod_nonneg cell (show (4 : Int) ≠ 0 by decide)
  have l4 := Int.emod_lt_of_pos cell (show (0 : Int) < 4 by decide)
  have g15 := Int.emod_nonneg cell (show (15 : Int) ≠ 0 by decide)
  have l15 := Int.emod_lt_of_pos cell (show (0 : Int) < 15 by decide)
  unfold signedL
  split
  · have hw : (["+97", "9_7", "0x9"] : List Str).getD (kind % 3) "" ∈ (["+97", "9_7", "0x9"] : List Str) := by
      rw [List.getD_eq_getElem?_getD, List.getElem?_eq_getElem (show kind % 3 < 3 from Nat.mod_lt _ (by decide))]
      exact List.getElem_mem _
    have hs : ([5, 8, 9, 3] : List Nat).getD (cell % 4).toNat 0 ∈ ([5, 8, 9, 3] : List Nat) := by
      rw [List.getD_eq_getElem?_getD, List.getElem?_eq_getElem (show (cell % 4).toNat < 4 by omega)]
      exact List.getElem_mem _
    have hsl : ∀ s ∈ ([5, 8, 9, 3] : List Nat), s ≤ 16 ∧ 2 ≤ s := by decide
    exact cut_bad h (hsl _ hs).1 (hsl _ hs).2 (one_w (signs_bad _ hw).1) (by simp) (signs_bad _ hw).2
  · generalize hat : (cell % 15).toNat = a
    have ha : a < 15 := by omega
    have w1 : (wordsZ c lo hi).getD a "" ∈ wordsZ c lo hi := by
      rw [List.getD_eq_getElem?_getD, List.getElem?_eq_getElem (show a < 16 by omega)]
      exact List.getElem_mem _
    have w2 : (wordsZ c lo hi).getD (a + 1) "" ∈ wordsZ c lo hi := by
      rw [List.getD_eq_getElem?_getD, List.getElem?_eq_getElem (show a + 1 < 16 by omega)]
      exact List.getElem_mem _
    obtain ⟨t1, t2⟩ := tab_word (wordsZ_ok h _ w1).1 (wordsZ_ok h _ w2).1 (words_four h _ w1) (words_four h _ w2)
    match a, ha with
    | 0, _ => exact refused_of (by simp) (fun w hw => (cut_ok h (a := 0) (b := 2) (one_w t1) w hw).1) (cut_len (by simp)) (rowW_eq eq_ne.1)
    | 1, _ =>
      refine refused_of (by simp) (fun w hw => (cut_ok h (a := 1) (b := 3) (one_w t1) w hw).1) (cut_len (by simp)) (rowW_eq fun q => ?_)
      have e : ("=" : Str) ++ "\t" ++ "row" = "=" := q
      revert e
      decide +kernel
    | a + 2, ha => exact cut_bad h (by omega) (by omega) (one_w t1) (by simp) (tab_bad t2)
end
end G

set_option Elab.async false
set_option linter.all false
set_option maxRecDepth 100000
set_option maxHeartbeats 2000000
/-! The rules that law_k04 draws: the lists. -/
namespace G
open PySem PySem.Spec PyProof.Rows L2
abbrev letter (k : Nat) : Str := mk [97 + k]
def xgood : Str := "xgood"
def xlost : Str := "xlost"
def xring : Str := "xring"
def sign4 (ns : List Int) : Nat := sgn (cell ns 1)
def baseR (ns : List Int) : Rules := (xgood, deepP (.sign (sign4 ns)) 11) :: (List.range (cell ns 2 % 4).toNat).map fun k => (letter k, .row [.sign (sign4 ns), .rule (letter (cell ns 3 % ((k : Nat) + 1 : Int)).toNat)])
def strangers : List Str := ["stranger", "", "Xgood"]
def strange (ns : List Int) : Str := strangers.getD (cell ns 7 % 3).toNat ""
def lostP (ns : List Int) : Part := wrapP (cell ns 7 / 3 % 1000) (.rule (strange ns)) (cell ns 7 / 3 % 1000 % 4).toNat
def ringsP : List Part := [.rule xring, .many (.rule xring), .or [.sign 97, .rule xring], .not (.rule xring)]
def ringP (ns : List Int) : Part := .row [.not .any, ringsP.getD (cell ns 9 % 4).toNat .any]
def badName (ns : List Int) : Dt := if cell ns 11 % 3 = 2 then names9.getD (cell ns 11 / 3 % 9).toNat .non else .str "xbad"
def isX (ns : List Int) : Prop := ¬ cell ns 11 % 3 = 2 ∨ cell ns 11 / 3 % 9 = 0
instance (ns : List Int) : Decidable (isX ns) := by unfold isX; exact inferInstance
def badPart (ns : List Int) : Dt :=
  if isX ns then (if cell ns 11 % 3 = 1 then (deepP (.sign (sign4 ns)) 12).dt else wrapD (cell ns 5 % 1000) ((wrongL (sign4 ns)).getD (cell ns 4 % 24).toNat .non) (cell ns 5 % 1000 % 4).toNat) else anyD
abbrev toX (r : Str × Part) : Dt × Dt := (.str r.1, r.2.dt)
def evenR (ns : List Int) (b1 b2 : Bool) : Rules := insIf b2 (insIf b1 (baseR ns) (xlost, lostP ns) (cell ns 8)) (xring, ringP ns) (cell ns 9 / 4)
def allX (ns : List Int) (b0 b1 b2 : Bool) : List (Dt × Dt) := insIf b2 (insIf b1 (insIf b0 ((baseR ns).map toX) (badName ns, badPart ns) (cell ns 6)) (toX (xlost, lostP ns)) (cell ns 8)) (toX (xring, ringP ns)) (cell ns 9 / 4)
theorem allX_even (ns : List Int) (b1 b2 : Bool) : allX ns false b1 b2 = (evenR ns b1 b2).map toX := by
  unfold allX evenR
  rw [insIf_map, insIf_map]
  rfl
def yname (k : Nat) : Str := mk [121, 97 + k % 26, 97 + k / 26]
def ysR (n : Nat) : Rules := (List.range n).map fun k => (yname k, .any)
theorem nodup_map4 {α β : Type} {f : α → β} (hf : ∀ a b, f a = f b → a = b) : ∀ {l : List α}, l.Nodup → (l.map f).Nodup
  | [], _ => List.nodup_nil
  | a :: l, h => by
    rw [List.nodup_cons] at h
    rw [List.map_cons, List.nodup_cons]
    refine ⟨fun q => ?_, nodup_map4 hf h.2⟩
    obtain ⟨b, hb, e⟩ := List.mem_map.mp q
    rw [hf _ _ e] at hb
    exact h.1 hb
/-! how many -/
theorem baseR_len (ns : List Int) : (baseR ns).length ≤ 4 := by
  unfold baseR
  have := Int.emod_lt_of_pos (cell ns 2) (show (0 : Int) < 4 by decide)
  have := Int.emod_nonneg (cell ns 2) (show (4 : Int) ≠ 0 by decide)
  rw [List.length_cons, List.length_map, List.length_range]
  omega
theorem insIf_len {α : Type} (b : Bool) (l : List α) (x : α) (c : Int) : l.length ≤ (insIf b l x c).length ∧ (insIf b l x c).length ≤ l.length + 1 := by
  rw [(insIf_perm b l x c).length_eq, List.length_append]
  cases b <;> simp <;> omega
theorem allX_len (ns : List Int) (b0 b1 b2 : Bool) : 1 ≤ (allX ns b0 b1 b2).length ∧ (allX ns b0 b1 b2).length ≤ 7 := by
  unfold allX
  have h0 := baseR_len ns
  have h0' : 1 ≤ (baseR ns).length := by unfold baseR; rw [List.length_cons]; omega
  have h1 := insIf_len b0 ((baseR ns).map toX) (badName ns, badPart ns) (cell ns 6)
  have h2 := insIf_len b1 (insIf b0 ((baseR ns).map toX) (badName ns, badPart ns) (cell ns 6)) (toX (xlost, lostP ns)) (cell ns 8)
  have h3 := insIf_len b2 (insIf b1 (insIf b0 ((baseR ns).map toX) (badName ns, badPart ns) (cell ns 6)) (toX (xlost, lostP ns)) (cell ns 8)) (toX (xring, ringP ns)) (cell ns 9 / 4)
  rw [List.length_map] at h1
  omega
/-! the parts -/
theorem good4_ok {ns : List Int} (k : Nat) : DpOk (deepP (.sign (sign4 ns)) k) (1 + k) (1 + 2 * k) [] :=
  deepP_ok (p := .sign (sign4 ns)) ⟨by simp [Part.good]; exact sgn_mem _, rfl, Nat.le_refl _, by simp [Part.rules]⟩ k
theorem lostP_ok (ns : List Int) : DpOk (lostP ns) (1 + (cell ns 7 / 3 % 1000 % 4).toNat) (1 + 3 * (cell ns 7 / 3 % 1000 % 4).toNat) [strange ns] :=
  wrapP_ok (p := .rule (strange ns)) ⟨rfl, rfl, Nat.le_refl _, by simp [Part.rules]⟩ _ _
theorem strange_mem (ns : List Int) : strange ns ∈ strangers := by
  have := Int.emod_lt_of_pos (cell ns 7) (show (0 : Int) < 3 by decide)
  have := Int.emod_nonneg (cell ns 7) (show (3 : Int) ≠ 0 by decide)
  unfold strange
  rw [List.getD_eq_getElem?_getD, List.getElem?_eq_getElem (show (cell ns 7 % 3).toNat < strangers.length by show _ < 3; omega)]
  exact List.getElem_mem _
theorem ring_mem (ns : List Int) : ringsP.getD (cell ns 9 % 4).toNat .any ∈ ringsP := by
  have := Int.emod_lt_of_pos (cell ns 9) (show (0 : Int) < 4 by decide)
  have := Int.emod_nonneg (cell ns 9) (show (4 : Int) ≠ 0 by decide)
  rw [List.getD_eq_getElem?_getD, List.getElem?_eq_getElem (show (cell ns 9 % 4).toNat < ringsP.length by show _ < 4; omega)]
  exact List.getElem_mem _
theorem ringP_ok (ns : List Int) : (ringP ns).good = true ∧ (ringP ns).deep ≤ 3 ∧ (ringP ns).size ≤ 6 ∧ (ringP ns).rules = [xring] := by
  have h := ring_mem ns
  unfold ringP
  generalize ringsP.getD (cell ns 9 % 4).toNat .any = q at *
  unfold ringsP at h
  have ha : 97 ∈ codes := by decide
  simp only [List.mem_cons, List.not_mem_nil, or_false] at h
  rcases h with rfl | rfl | rfl | rfl <;> simp [Part.good, Part.goods, Part.deep, Part.deeps, Part.size, Part.sizes, Part.rules, Part.ruless, ha]
theorem ringP_ahead (ns : List Int) (E : Str → Bool) : xring ∈ (ringP ns).ahead E := by
  have h := ring_mem ns
  unfold ringP
  generalize ringsP.getD (cell ns 9 % 4).toNat .any = q at *
  unfold ringsP at h
  simp only [List.mem_cons, List.not_mem_nil, or_false] at h
  rcases h with rfl | rfl | rfl | rfl <;> simp [Part.ahead, Part.aheadRow, Part.aheadOr, Part.may]
/-- what the good ones have in common -/
structure Fine4 (r : Str × Part) : Prop where
  nm : isNameD (.str r.1) = true
  pt : r.2.good = true ∧ r.2.deep ≤ 12
  size : r.2.size ≤ 100
  ok : OkX (toX r).1 30 ∧ OkX (toX r).2 30
theorem okRule {l : List Str} (h : ∀ s ∈ l, OkX (.str s) 1) : ∀ s ∈ l, s.length ≤ 100000 ∧ okT s = true := fun s hs => by
  have := h s hs
  refine ⟨?_, ?_⟩
  · have := this.ok
    rw [okD] at this
    exact of_decide_eq_true this
  · have := this.eq.2.1
    rw [pyD] at this
    exact this
theorem fine4_of {r : Str × Part} (nm : isNameD (.str r.1) = true) (hn : OkX (.str r.1) 1) (hg : r.2.good = true) (hd : r.2.deep ≤ 12) (hs : r.2.size ≤ 100) (hr : ∀ s ∈ r.2.rules, OkX (.str s) 1) : Fine4 r :=
  ⟨nm, ⟨hg, hd⟩, hs, hn.mono (by decide), okX_dt hg (by omega) (okRule hr) (by omega)⟩
theorem okX_letter {k : Nat} (h : k < 26) : OkX (.str (letter k)) 1 := okX_mk (by show 1 ≤ 100000; decide) fun x hx => by
  simp at hx
  omega
theorem nm_mk {l : List Nat} (h1 : 1 ≤ l.length) (h2 : l.length ≤ 12) (h3 : ∀ x ∈ l, 97 ≤ x ∧ x < 123) : isNameD (.str (mk l)) = true := by
  show ((decide (1 ≤ l.length) && decide (l.length ≤ 12)) && l.all fun c => decide (c ∈ lettersS.cps.toList)) = true
  rw [decide_eq_true h1, decide_eq_true h2]
  simp only [Bool.and_self, Bool.true_and, List.all_eq_true, decide_eq_true_eq]
  exact fun x hx => by
    show x ∈ (List.range 26).map (97 + ·)
    have := h3 x hx
    exact List.mem_map.mpr ⟨x - 97, List.mem_range.mpr (by omega), by omega⟩
theorem xs_ok : (isNameD (.str xgood) = true ∧ OkX (.str xgood) 1) ∧ (isNameD (.str xlost) = true ∧ OkX (.str xlost) 1) ∧ (isNameD (.str xring) = true ∧ OkX (.str xring) 1) :=
  ⟨⟨by decide +kernel, okX_lit (by decide +kernel)⟩, ⟨by decide +kernel, okX_lit (by decide +kernel)⟩, ⟨by decide +kernel, okX_lit (by decide +kernel)⟩⟩
theorem okX_strange : ∀ s ∈ strangers, OkX (.str s) 1 := by
  unfold strangers
  exact all_cons (okX_lit (by decide +kernel)) (all_cons (okX_lit (by decide +kernel)) (all_cons (okX_lit (by decide +kernel)) all_nil))
theorem base_fine (ns : List Int) : ∀ r ∈ baseR ns, Fine4 r := by
  have hm := Int.emod_lt_of_pos (cell ns 2) (show (0 : Int) < 4 by decide)
  have hp := Int.emod_nonneg (cell ns 2) (show (4 : Int) ≠ 0 by decide)
  unfold baseR
  refine all_cons ?_ fun r hr => ?_
  · have h := good4_ok (ns := ns) 11
    exact fine4_of xs_ok.1.1 xs_ok.1.2 h.good (by rw [h.deep]; decide) (Nat.le_trans h.size (by decide)) (by rw [h.rules]; exact all_nil)
  · obtain ⟨k, hk, rfl⟩ := List.mem_map.mp hr
    have hk' := List.mem_range.mp hk
    have hj := Int.emod_lt_of_pos (cell ns 3) (show (0 : Int) < ((k : Nat) + 1 : Int) by omega)
    refine fine4_of (nm_mk (by simp) (by simp) fun x hx => by simp at hx; omega) (okX_letter (by omega)) ?_ ?_ ?_ ?_
    · simp [Part.good, Part.goods]
      exact sgn_mem _
    · simp [Part.deep, Part.deeps]
    · simp [Part.size, Part.sizes]
    · simp only [Part.rules, Part.ruless, List.append_nil, List.nil_append]
      exact all_cons (okX_letter (by omega)) all_nil
theorem lost_fine (ns : List Int) : Fine4 (xlost, lostP ns) := by
  have h := lostP_ok ns
  have := Int.emod_lt_of_pos (cell ns 7 / 3 % 1000) (show (0 : Int) < 4 by decide)
  exact fine4_of xs_ok.2.1.1 xs_ok.2.1.2 h.good (by rw [h.deep]; omega) (Nat.le_trans h.size (by omega)) (by rw [h.rules]; exact all_cons (okX_strange _ (strange_mem ns)) all_nil)
theorem ring_fine (ns : List Int) : Fine4 (xring, ringP ns) := by
  obtain ⟨h1, h2, h3, h4⟩ := ringP_ok ns
  exact fine4_of xs_ok.2.2.1 xs_ok.2.2.2 h1 (Nat.le_trans h2 (by decide)) (Nat.le_trans h3 (by decide)) (by rw [h4]; exact all_cons xs_ok.2.2.2 all_nil)
theorem ys_fine {n : Nat} (hn : n ≤ 41) : ∀ r ∈ ysR n, Fine4 r := fun r hr => by
  unfold ysR at hr
  obtain ⟨k, hk, rfl⟩ := List.mem_map.mp hr
  have hk' := List.mem_range.mp hk
  refine fine4_of (nm_mk (by simp) (by simp) fun x hx => ?_) (okX_mk (by show 3 ≤ 100000; decide) fun x hx => ?_) rfl (by simp [Part.deep]) (by simp [Part.size]) (by simp [Part.rules])
  · simp at hx
    omega
  · simp at hx
    omega
theorem insIf_all {α : Type} {Q : α → Prop} (b : Bool) (l : List α) (x : α) (c : Int) (hl : ∀ y ∈ l, Q y) (hx : b = true → Q x) : ∀ y ∈ insIf b l x c, Q y := fun y hy => by
  have := (insIf_perm b l x c).mem_iff.mp hy
  rw [List.mem_append] at this
  rcases this with h | h
  · cases b with
    | false => simp at h
    | true => simp at h; subst h; exact hx rfl
  · exact hl y h
theorem insIf_mem {α : Type} (b : Bool) (l : List α) (x : α) (c : Int) {y : α} (h : (b = true ∧ y = x) ∨ y ∈ l) : y ∈ insIf b l x c := by
  refine (insIf_perm b l x c).mem_iff.mpr (List.mem_append.mpr ?_)
  rcases h with ⟨rfl, rfl⟩ | h
  · exact .inl (by simp)
  · exact .inr h
theorem even_fine (ns : List Int) (b1 b2 : Bool) : ∀ r ∈ evenR ns b1 b2, Fine4 r := insIf_all _ _ _ _ (insIf_all _ _ _ _ (base_fine ns) fun _ => lost_fine ns) fun _ => ring_fine ns
/-! the bad one -/
theorem bad_ok (ns : List Int) : (OkX (badName ns) 30 ∧ OkX (badPart ns) 40) ∧ sizeD (badPart ns) ≤ 1000 := by
  have h24 := Int.emod_lt_of_pos (cell ns 4) (show (0 : Int) < 24 by decide)
  have h24' := Int.emod_nonneg (cell ns 4) (show (24 : Int) ≠ 0 by decide)
  have h9 := Int.emod_lt_of_pos (cell ns 11 / 3) (show (0 : Int) < 9 by decide)
  have h9' := Int.emod_nonneg (cell ns 11 / 3) (show (9 : Int) ≠ 0 by decide)
  have h4 := Int.emod_lt_of_pos (cell ns 5 % 1000) (show (0 : Int) < 4 by decide)
  have hw : (wrongL (sign4 ns)).getD (cell ns 4 % 24).toNat .non ∈ wrongL (sign4 ns) := by
    rw [List.getD_eq_getElem?_getD, List.getElem?_eq_getElem (by rw [wrongL_len]; omega)]
    exact List.getElem_mem _
  refine ⟨⟨?_, ?_⟩, ?_⟩
  · unfold badName
    split
    · rw [List.getD_eq_getElem?_getD, List.getElem?_eq_getElem (show _ < 9 by omega)]
      exact (okX_names9 _ (List.getElem_mem _)).mono (by decide)
    · exact (okX_lit (by decide +kernel)).mono (by decide)
  · unfold badPart
    split
    · split
      · have h := good4_ok (ns := ns) 12
        exact okX_dt h.good (Nat.le_trans h.size (by decide)) (by rw [h.rules]; exact all_nil) (by rw [h.deep]; decide)
      · exact (okX_wrap (n := 28) (okX_wrong (sgn_mem _) _ hw) _ _).mono (by omega)
    · exact okX_any.mono (by decide)
  · unfold badPart
    split
    · split
      · rw [← deepD_dt]
        simp [deepD, deep1, sizeD, sizeDs, Part.dt]
      · have h1 := sizeD_wrong _ _ hw
        have h2 := sizeD_wrap (cell ns 5 % 1000) ((wrongL (sign4 ns)).getD (cell ns 4 % 24).toNat .non) (cell ns 5 % 1000 % 4).toNat
        omega
    · simp [sizeD, sizeDs]
theorem bad_part (ns : List Int) (h : isX ns) : isPartD 12 (badPart ns) = false := by
  have h24 := Int.emod_lt_of_pos (cell ns 4) (show (0 : Int) < 24 by decide)
  have h24' := Int.emod_nonneg (cell ns 4) (show (24 : Int) ≠ 0 by decide)
  have hw : (wrongL (sign4 ns)).getD (cell ns 4 % 24).toNat .non ∈ wrongL (sign4 ns) := by
    rw [List.getD_eq_getElem?_getD, List.getElem?_eq_getElem (by rw [wrongL_len]; omega)]
    exact List.getElem_mem _
  unfold badPart
  rw [if_pos h]
  split
  · exact noPart_deep (good4_ok (ns := ns) 12) (by decide) 12 (Nat.le_refl _)
  · exact noPart_wrap (noPart_wrong _ _ hw) _ _ 12 (Nat.le_refl _)
theorem bad_name (ns : List Int) (h : ¬ isX ns) : isNameD (badName ns) = false ∨ badName ns = .str xgood := by
  have h9 := Int.emod_lt_of_pos (cell ns 11 / 3) (show (0 : Int) < 9 by decide)
  have h9' := Int.emod_nonneg (cell ns 11 / 3) (show (9 : Int) ≠ 0 by decide)
  unfold isX at h
  rw [not_or, Classical.not_not] at h
  unfold badName
  rw [if_pos h.1]
  obtain ⟨k, hk⟩ : ∃ k : Nat, (cell ns 11 / 3 % 9).toNat = k := ⟨_, rfl⟩
  rw [hk]
  have hk0 : k ≠ 0 := by omega
  have hk9 : k < 9 := by omega
  match k, hk0, hk9 with
  | 1, _, _ => exact .inl (by decide +kernel)
  | 2, _, _ => exact .inl (by decide +kernel)
  | 3, _, _ => exact .inl (by decide +kernel)
  | 4, _, _ => exact .inl (by decide +kernel)
  | 5, _, _ => exact .inl (by decide +kernel)
  | 6, _, _ => exact .inl rfl
  | 7, _, _ => exact .inl rfl
  | 8, _, _ => exact .inr rfl
theorem odd_bad (ns : List Int) (b1 b2 : Bool) : ¬ ∃ rules, Valid (allX ns true b1 b2) rules := fun ⟨rules, hv⟩ => by
  have hmem : (badName ns, badPart ns) ∈ allX ns true b1 b2 := insIf_mem _ _ _ _ (.inr (insIf_mem _ _ _ _ (.inr (insIf_mem _ _ _ _ (.inl ⟨rfl, rfl⟩)))))
  have hm2 := hmem
  rw [hv.eq] at hm2
  obtain ⟨r, hr, he⟩ := List.mem_map.mp hm2
  have e1 : badName ns = .str r.1 := (Prod.mk.injEq _ _ _ _ ▸ he.symm : _ ∧ _).1
  have e2 : badPart ns = r.2.dt := (Prod.mk.injEq _ _ _ _ ▸ he.symm : _ ∧ _).2
  by_cases hx : isX ns
  · have h1 := bad_part ns hx
    rw [e2, Part.isPart_dt 12 r.2 (hv.pt r hr).1 (hv.pt r hr).2] at h1
    cases h1
  · rcases bad_name ns hx with h1 | h1
    · rw [e1, hv.nm r hr] at h1
      cases h1
    · -- the name stands twice
      have hp : (allX ns true b1 b2).Perm ((if b2 = true then [toX (xring, ringP ns)] else []) ++ ((if b1 = true then [toX (xlost, lostP ns)] else []) ++ ((badName ns, badPart ns) :: (baseR ns).map toX))) := by
        unfold allX
        refine (insIf_perm _ _ _ _).trans (List.Perm.append_left _ ?_)
        refine (insIf_perm _ _ _ _).trans (List.Perm.append_left _ ?_)
        exact insIf_perm true _ _ _
      have hn : ((allX ns true b1 b2).map (·.1)).Nodup := by
        rw [hv.eq, List.map_map]
        have e : (Prod.fst ∘ fun r : Str × Part => (Dt.str r.1, r.2.dt)) = Dt.str ∘ Prod.fst := rfl
        rw [e, ← List.map_map]
        exact nodup_map4 (fun a b h => by injection h) hv.nd
      have hn2 := (hp.map (·.1)).nodup_iff.mp hn
      rw [List.map_append, List.map_append] at hn2
      have hn3 := (List.nodup_append.mp (List.nodup_append.mp hn2).2.1).2.1
      rw [List.map_cons, List.nodup_cons] at hn3
      refine hn3.1 ?_
      rw [h1]
      exact List.mem_map.mpr ⟨toX (xgood, _), List.mem_map.mpr ⟨_, List.mem_cons_self, rfl⟩, rfl⟩
/-! the good ones -/
def finR (ns : List Int) (b1 b2 : Bool) (n : Nat) : Rules := evenR ns b1 b2 ++ ysR n
theorem even_perm (ns : List Int) (b1 b2 : Bool) : (evenR ns b1 b2).Perm ((if b2 = true then [(xring, ringP ns)] else []) ++ ((if b1 = true then [(xlost, lostP ns)] else []) ++ baseR ns)) :=
  (insIf_perm _ _ _ _).trans (List.Perm.append_left _ (insIf_perm _ _ _ _))
theorem base_names (ns : List Int) : (baseR ns).map (·.1) = xgood :: (List.range (cell ns 2 % 4).toNat).map letter := by
  unfold baseR
  rw [List.map_cons, List.map_map]
  rfl
theorem even_names (ns : List Int) (b1 b2 : Bool) : ∀ s ∈ (evenR ns b1 b2).map (·.1), s = xring ∧ b2 = true ∨ s = xlost ∧ b1 = true ∨ s = xgood ∨ ∃ k, k < (cell ns 2 % 4).toNat ∧ s = letter k := fun s hs => by
  have := ((even_perm ns b1 b2).map (·.1)).mem_iff.mp hs
  rw [List.map_append, List.map_append, List.mem_append, List.mem_append, base_names, List.mem_cons] at this
  rcases this with h | h | h | h
  · cases b2 <;> simp at h
    exact .inl ⟨h, rfl⟩
  · cases b1 <;> simp at h
    exact .inr (.inl ⟨h, rfl⟩)
  · exact .inr (.inr (.inl h))
  · obtain ⟨k, hk, rfl⟩ := List.mem_map.mp h
    exact .inr (.inr (.inr ⟨k, List.mem_range.mp hk, rfl⟩))
theorem mk_eq_len {a : List Nat} {s : Str} (h : mk a = s) : a.length = s.length := by rw [← h]; rfl
theorem len_x : xgood.length = 5 ∧ xlost.length = 5 ∧ xring.length = 5 := ⟨by decide +kernel, by decide +kernel, by decide +kernel⟩
theorem ne_x : xgood ≠ xlost ∧ xgood ≠ xring ∧ xlost ≠ xring := ⟨by decide +kernel, by decide +kernel, by decide +kernel⟩
theorem letter_inj {a b : Nat} (h : letter a = letter b) : a = b := by have := mk_inj h; simpa using this
theorem even_nodup (ns : List Int) (b1 b2 : Bool) : ((evenR ns b1 b2).map (·.1)).Nodup := by
  refine ((even_perm ns b1 b2).map (·.1)).nodup_iff.mpr ?_
  have lx : ∀ k s, s.length = 5 → letter k ≠ s := fun k s h q => by have := mk_eq_len q; simp at this; omega
  have hb : ((baseR ns).map (·.1)).Nodup := by
    rw [base_names, List.nodup_cons]
    refine ⟨fun h => ?_, nodup_map4 (fun a b h => letter_inj h) List.nodup_range⟩
    obtain ⟨k, _, q⟩ := List.mem_map.mp h
    exact lx k _ len_x.1 q
  have hb1 : ∀ x : Str, x.length = 5 → x ≠ xgood → x ∉ (baseR ns).map (·.1) := fun x hx hne h => by
    rw [base_names, List.mem_cons] at h
    rcases h with h | h
    · exact hne h
    · obtain ⟨k, _, q⟩ := List.mem_map.mp h
      exact lx k _ hx q
  have hl := hb1 xlost len_x.2.1 ne_x.1.symm
  have hr := hb1 xring len_x.2.2 ne_x.2.1.symm
  have hrl : xring ≠ xlost := ne_x.2.2.symm
  cases b1 <;> cases b2 <;> simp only [if_true, Bool.false_eq_true, if_false, List.nil_append, List.cons_append, List.map_cons, List.nodup_cons]
  · exact hb
  · exact ⟨hr, hb⟩
  · exact ⟨hl, hb⟩
  · refine ⟨?_, hl, hb⟩
    rw [List.mem_cons, not_or]
    exact ⟨hrl, hr⟩
theorem yname_inj {a b : Nat} (h : yname a = yname b) : a = b := by
  have := mk_inj h
  simp at this
  omega
theorem yname_ne (k : Nat) : (∀ j, yname k ≠ letter j) ∧ yname k ≠ xgood ∧ yname k ≠ xlost ∧ yname k ≠ xring ∧ yname k ∉ strangers := by
  have l : ∀ s : Str, s.length ≠ 3 → yname k ≠ s := fun s h q => by have := mk_eq_len q; simp at this; omega
  refine ⟨fun j => l _ (by show 1 ≠ 3; decide), l _ (by rw [len_x.1]; decide), l _ (by rw [len_x.2.1]; decide), l _ (by rw [len_x.2.2]; decide), fun h => ?_⟩
  unfold strangers at h
  simp only [List.mem_cons, List.not_mem_nil, or_false] at h
  rcases h with h | h | h
  · exact l _ (by decide +kernel) h
  · exact l _ (by decide +kernel) h
  · exact l _ (by decide +kernel) h
theorem fin_fine (ns : List Int) (b1 b2 : Bool) {n : Nat} (hn : n ≤ 41) : ∀ r ∈ finR ns b1 b2 n, Fine4 r := fun r hr => by
  rcases List.mem_append.mp hr with h | h
  · exact even_fine ns b1 b2 r h
  · exact ys_fine hn r h
theorem fin_valid (ns : List Int) (b1 b2 : Bool) {n : Nat} (hn : n ≤ 41) : Valid ((finR ns b1 b2 n).map toX) (finR ns b1 b2 n) where
  eq := rfl
  nd := by
    unfold finR
    rw [List.map_append, List.nodup_append]
    refine ⟨even_nodup ns b1 b2, ?_, fun a ha b hb q => ?_⟩
    · unfold ysR
      rw [List.map_map]
      exact nodup_map4 (fun a b h => yname_inj h) List.nodup_range
    · subst q
      unfold ysR at hb
      rw [List.map_map] at hb
      obtain ⟨k, _, rfl⟩ := List.mem_map.mp hb
      have := yname_ne k
      rcases even_names ns b1 b2 _ ha with h | h | h | ⟨j, _, h⟩
      · exact this.2.2.2.1 h.1
      · exact this.2.2.1 h.1
      · exact this.2.1 h
      · exact this.1 j h
  nm := fun r hr => (fin_fine ns b1 b2 hn r hr).nm
  pt := fun r hr => (fin_fine ns b1 b2 hn r hr).pt
theorem lost_unknown (ns : List Int) (b2 : Bool) (n : Nat) : ¬ Known (finR ns true b2 n) := fun h => by
  have hm : (xlost, lostP ns) ∈ finR ns true b2 n := List.mem_append_left _ (insIf_mem _ _ _ _ (.inr (insIf_mem _ _ _ _ (.inl ⟨rfl, rfl⟩))))
  have h1 := h _ hm (strange ns) (by rw [(lostP_ok ns).rules]; simp)
  unfold finR at h1
  rw [List.map_append, List.mem_append] at h1
  have hs := strange_mem ns
  rcases h1 with h1 | h1
  · have nx : xring ∉ strangers ∧ xlost ∉ strangers ∧ xgood ∉ strangers := ⟨by decide +kernel, by decide +kernel, by decide +kernel⟩
    rcases even_names ns true b2 _ h1 with ⟨h, _⟩ | ⟨h, _⟩ | h | ⟨j, _, h⟩
    · rw [h] at hs; exact nx.1 hs
    · rw [h] at hs; exact nx.2.1 hs
    · rw [h] at hs; exact nx.2.2 hs
    · rw [h] at hs
      have l : ∀ s : Str, s.length ≠ 1 → letter j ≠ s := fun s h q => by have := mk_eq_len q; simp at this; omega
      unfold strangers at hs
      simp only [List.mem_cons, List.not_mem_nil, or_false] at hs
      rcases hs with h | h | h
      · exact l _ (by decide +kernel) h
      · exact l _ (by decide +kernel) h
      · exact l _ (by decide +kernel) h
  · unfold ysR at h1
    rw [List.map_map] at h1
    obtain ⟨k, _, q⟩ := List.mem_map.mp h1
    rw [← q] at hs
    exact (yname_ne k).2.2.2.2 hs
theorem fin_mem (ns : List Int) (b2 : Bool) (n : Nat) {r : Str × Part} (h : r ∈ finR ns false b2 n) : (r = (xring, ringP ns) ∧ b2 = true) ∨ r ∈ baseR ns ∨ r ∈ ysR n := by
  rcases List.mem_append.mp h with h | h
  · have := (even_perm ns false b2).mem_iff.mp h
    rw [List.mem_append] at this
    rcases this with h | h
    · cases b2 <;> simp at h
      exact .inl ⟨h, rfl⟩
    · exact .inr (.inl (by simpa using h))
  · exact .inr (.inr h)
theorem fin_known (ns : List Int) (b2 : Bool) (n : Nat) : Known (finR ns false b2 n) := fun r hr s hs => by
  have inb : ∀ s, s ∈ (baseR ns).map (·.1) → s ∈ (finR ns false b2 n).map (·.1) := fun s hs => by
    obtain ⟨r, hr, rfl⟩ := List.mem_map.mp hs
    exact List.mem_map.mpr ⟨r, List.mem_append_left _ (insIf_mem _ _ _ _ (.inr hr)), rfl⟩
  rcases fin_mem ns b2 n hr with ⟨rfl, rfl⟩ | h | h
  · rw [(ringP_ok ns).2.2.2, List.mem_singleton] at hs
    subst hs
    exact List.mem_map.mpr ⟨(xring, ringP ns), List.mem_append_left _ (insIf_mem _ _ _ _ (.inl ⟨rfl, rfl⟩)), rfl⟩
  · unfold baseR at h
    rcases List.mem_cons.mp h with rfl | h
    · rw [(good4_ok (ns := ns) 11).rules] at hs
      cases hs
    · obtain ⟨k, hk, rfl⟩ := List.mem_map.mp h
      have hk' := List.mem_range.mp hk
      have hj := Int.emod_lt_of_pos (cell ns 3) (show (0 : Int) < ((k : Nat) + 1 : Int) by omega)
      simp only [Part.rules, Part.ruless, List.append_nil, List.nil_append, List.mem_singleton] at hs
      subst hs
      refine inb _ ?_
      rw [base_names]
      exact List.mem_cons_of_mem _ (List.mem_map.mpr ⟨_, List.mem_range.mpr (by omega), rfl⟩)
  · unfold ysR at h
    obtain ⟨k, _, rfl⟩ := List.mem_map.mp h
    simp [Part.rules] at hs
theorem fin_rings (ns : List Int) (n : Nat) (E : List Str) : Rings (finR ns false true n) E := by
  have hm : (xring, ringP ns) ∈ finR ns false true n := List.mem_append_left _ (insIf_mem _ _ _ _ (.inl ⟨rfl, rfl⟩))
  exact ⟨_, hm, .one (l := (ringP ns).ahead (memB E)) (List.mem_map.mpr ⟨_, hm, rfl⟩) (ringP_ahead ns _)⟩
theorem fin_noring (ns : List Int) (n : Nat) (E : List Str) : ¬ Rings (finR ns false false n) E := fun ⟨r, hr, h⟩ => by
  have key : ∀ x ∈ aheads (finR ns false false n) E, x.2 = [] := fun x hx => by
    obtain ⟨r, hr, rfl⟩ := List.mem_map.mp hx
    rcases fin_mem ns false n hr with ⟨_, h⟩ | h | h
    · cases h
    · unfold baseR at h
      rcases List.mem_cons.mp h with rfl | h
      · show Part.ahead _ _ = []
        refine List.eq_nil_iff_forall_not_mem.mpr fun s hs => ?_
        have := ahead_rules _ _ s hs
        rw [(good4_ok (ns := ns) 11).rules] at this
        cases this
      · obtain ⟨k, hk, rfl⟩ := List.mem_map.mp h
        simp [Part.ahead, Part.aheadRow, Part.may]
    · unfold ysR at h
      obtain ⟨k, _, rfl⟩ := List.mem_map.mp h
      simp [Part.ahead]
  cases h with
  | one h1 h2 =>
    have e := key _ h1
    change _ = [] at e
    simp only at e
    subst e
    cases h2
  | more h1 h2 h3 =>
    have e := key _ h2
    simp only at e
    subst e
    cases h3
end G

set_option Elab.async false
set_option linter.all false
set_option maxRecDepth 100000
set_option maxHeartbeats 1000000
/-! The notes that law_k07 writes: the rules. -/
namespace G
open PySem PySem.Spec PyProof.Rows L2
open TL (tl joinL)
section
variable (ns : List Int)
def many7 : Nat := (cell ns 4 % 5).toNat
def odd7 : Nat := (cell ns 5 % 12).toNat
def isOdd : Prop := 0 < many7 ns ∧ odd7 ns < 6
instance : Decidable (isOdd ns) := by unfold isOdd; exact inferInstance
def at7 : Nat := (cell ns 5 / 12 % ((many7 ns : Nat) : Int)).toNat
def strangers7 : List Str := ["stranger", "A1", "=", "ruleofthirteen", "1", "any"]
def str7 : Str := strangers7.getD (cell ns 9 % 6).toNat ""
def good7 (k : Nat) : Str × Part := (letter k, .or [.rule "zz", .any])
def odd7P (j k : Nat) (s : Str) : Part := ([.rule s, .or [.not .any, .rule (letter k)], .or [], .span 98 97, .any] : List Part).getD j .any
def odd7N (j k : Nat) : Str := if j = 4 then mk [97 + k, 65] else letter k
def odd7R (j k : Nat) (s : Str) : Str × Part := (odd7N j k, odd7P j k s)
def base7 : Rules := (List.range (many7 ns)).map good7
def odds7 : Rules := if isOdd ns then (base7 ns).set (at7 ns) (odd7R (min (odd7 ns) 4) (at7 ns) (str7 ns)) else base7 ns
def lets7 : Rules := if 1 < many7 ns ∧ odd7 ns = 5 then (odds7 ns).set 0 ((odds7 ns).getD 1 (good7 0)) else odds7 ns
def c7 : Nat := sgn (cell ns 3)
def lo7 : Nat := if sgn (cell ns 2) < sgn (cell ns 1) then sgn (cell ns 2) else sgn (cell ns 1)
def hi7 : Nat := if sgn (cell ns 2) < sgn (cell ns 1) then sgn (cell ns 1) else sgn (cell ns 2)
def zz7 : Str × Part := ("zz", partZ (c7 ns) (lo7 ns) (hi7 ns))
def W7 : List Str := wordsZ (c7 ns) (lo7 ns) (hi7 ns)
def kind7 : Nat := (cell ns 7 % 44).toNat
def wz7 : List Str := if kind7 ns < 22 then brokenL (W7 ns) (kind7 ns) (cell ns 8) else if 29 < kind7 ns ∧ kind7 ns < 35 then signedL (W7 ns) (kind7 ns) (cell ns 8) else W7 ns
def mid7 : Rules := putIn (lets7 ns) (zz7 ns) (cell ns 6)
def rows7 : List Str := putIn ((lets7 ns).map rowT) (Txt.join " " (wz7 ns)) (cell ns 6)
def nots : Nat → Part
  | 0 => .any
  | n + 1 => .not (nots n)
def deep7 (n : Nat) : Str × Part := ("deep", nots n)
def dn7 (c : Int) : Nat := (12 + c / 8 % 30).toNat
def more7 (rows : List Str) (kind : Nat) (c : Int) : List Str :=
  if kind = 22 then rows ++ [("" : Str)] else if kind = 23 then [("" : Str)] else if kind = 24 then putIn rows ("" : Str) c
  else if kind = 25 ∨ kind = 26 then putIn rows (rowT (deep7 (dn7 c))) c else if kind = 27 then rows ++ (ysR (41 - rows.length)).map rowT
  else if kind = 29 then rows ++ [rowT (deep7 11)] else rows
def all7 : List Str := more7 (rows7 ns) (kind7 ns) (cell ns 8)
def all7R : Rules := if kind7 ns = 25 ∨ kind7 ns = 26 then putIn (mid7 ns) (deep7 (dn7 (cell ns 8))) (cell ns 8) else if kind7 ns = 27 then mid7 ns ++ ysR (41 - (mid7 ns).length)
  else if kind7 ns = 29 then mid7 ns ++ [deep7 11] else mid7 ns
end
variable {ns : List Int}
theorem many7_lt : many7 ns < 5 := by
  unfold many7
  have := Int.emod_lt_of_pos (cell ns 4) (show (0 : Int) < 5 by decide)
  omega
theorem kind7_lt : kind7 ns < 44 := by
  unfold kind7
  have := Int.emod_lt_of_pos (cell ns 7) (show (0 : Int) < 44 by decide)
  omega
theorem at7_lt (h : 0 < many7 ns) : at7 ns < many7 ns := by
  unfold at7
  have := Int.emod_lt_of_pos (cell ns 5 / 12) (show (0 : Int) < ((many7 ns : Nat) : Int) by omega)
  have := Int.emod_nonneg (cell ns 5 / 12) (show ((many7 ns : Nat) : Int) ≠ 0 by omega)
  omega
theorem str7_mem : str7 ns ∈ strangers7 := by
  unfold str7
  have := Int.emod_lt_of_pos (cell ns 9) (show (0 : Int) < 6 by decide)
  have := Int.emod_nonneg (cell ns 9) (show (6 : Int) ≠ 0 by decide)
  rw [List.getD_eq_getElem?_getD, List.getElem?_eq_getElem (show (cell ns 9 % 6).toNat < strangers7.length by show _ < 6; omega)]
  exact List.getElem_mem _
theorem codes7 : CodesZ (c7 ns) (lo7 ns) (hi7 ns) where
  c := sgn_mem _
  lo := by unfold lo7; split <;> exact sgn_mem _
  hi := by unfold hi7; split <;> exact sgn_mem _
theorem base7_len : (base7 ns).length = many7 ns := by unfold base7; rw [List.length_map, List.length_range]
theorem odds7_len : (odds7 ns).length = many7 ns := by unfold odds7; split <;> simp [base7_len]
theorem lets7_len : (lets7 ns).length = many7 ns := by unfold lets7; split <;> simp [odds7_len]
theorem mem_set {α : Type} {l : List α} {i : Nat} {a x : α} (h : x ∈ l.set i a) : x = a ∨ x ∈ l := by
  rcases List.mem_or_eq_of_mem_set h with h | h
  · exact .inr h
  · exact .inl h
theorem odds7_mem {r : Str × Part} (h : r ∈ odds7 ns) : (∃ k, k < many7 ns ∧ r = good7 k) ∨ (isOdd ns ∧ r = odd7R (min (odd7 ns) 4) (at7 ns) (str7 ns)) := by
  have hb : r ∈ base7 ns → ∃ k, k < many7 ns ∧ r = good7 k := fun h => by
    obtain ⟨k, hk, rfl⟩ := List.mem_map.mp h
    exact ⟨k, List.mem_range.mp hk, rfl⟩
  unfold odds7 at h
  split at h
  · rename_i ho
    rcases mem_set h with h | h
    · exact .inr ⟨ho, h⟩
    · exact .inl (hb h)
  · exact .inl (hb h)
theorem lets7_mem {r : Str × Part} (h : r ∈ lets7 ns) : (∃ k, k < many7 ns ∧ r = good7 k) ∨ (isOdd ns ∧ r = odd7R (min (odd7 ns) 4) (at7 ns) (str7 ns)) := by
  unfold lets7 at h
  split at h
  · rename_i ho
    rcases mem_set h with h | h
    · refine odds7_mem ?_
      rw [h, List.getD_eq_getElem?_getD, List.getElem?_eq_getElem (by rw [odds7_len]; exact ho.1)]
      exact List.getElem_mem _
    · exact odds7_mem h
  · exact odds7_mem h
/-! each of them may be written -/
theorem letter_w : ∀ k < 26, WordOk (letter k) ∧ letter k ≠ ("" : Str) := by decide +kernel
theorem letterA_w : ∀ k < 26, WordOk (mk [97 + k, 65]) ∧ mk [97 + k, 65] ≠ ("" : Str) := by decide +kernel
theorem yname_w : ∀ k < 42, WordOk (yname k) ∧ yname k ≠ ("" : Str) := by decide +kernel
theorem strangers_w : ∀ s ∈ strangers7, WordOk s ∧ s ≠ ("" : Str) := by decide +kernel
theorem zz_w : WordOk "zz" ∧ ("zz" : Str) ≠ "" ∧ WordOk "deep" ∧ ("deep" : Str) ≠ "" ∧ WordOk "" := by decide +kernel
theorem ruleW_of {r : Str × Part} (hn : WordOk r.1 ∧ r.1 ≠ ("" : Str)) (hc : canW r.2 = true) (hr : ∀ s ∈ r.2.rules, WordOk s) (hl : r.2.size ≤ 60) : RuleW r where
  can := hc
  name := hn.1
  ne := hn.2
  words := words_all WordOk kinds_word nums_word r.2 hc hr
  len := by have := words_le r.2; omega
/-- what may be written and taken -/
structure Wr7 (r : Str × Part) : Prop where
  w : RuleW r
  okn : okD (.str r.1) = true
  okp : okD r.2.dt = true
  size : r.2.size ≤ 60
theorem wordOk_okD {s : Str} (h : WordOk s) : okD (.str s) = true := okD_str (Nat.le_trans h.1 (by decide))
theorem wr_of {r : Str × Part} (hn : WordOk r.1 ∧ r.1 ≠ ("" : Str)) (hc : canW r.2 = true) (hr : ∀ s ∈ r.2.rules, WordOk s) (hl : r.2.size ≤ 60) : Wr7 r :=
  ⟨ruleW_of hn hc hr hl, wordOk_okD hn.1, okD_dt r.2 (Nat.le_trans hl (by decide)) fun s hs => Nat.le_trans (hr s hs).1 (by decide), hl⟩
theorem good7_wr {k : Nat} (h : k < 26) : Wr7 (good7 k) := wr_of (letter_w k h) (by simp [good7, canW, canWs, zz_w.2.1]) (by
  intro s hs
  simp [good7, Part.rules, Part.ruless] at hs
  subst hs
  exact zz_w.1) (by simp [good7, Part.size, Part.sizes])
theorem odd7_wr {j k : Nat} (h : k < 26) (hj : j < 5) {s : Str} (hs : s ∈ strangers7) : Wr7 (odd7R j k s) := by
  have hn : WordOk (odd7N j k) ∧ odd7N j k ≠ ("" : Str) := by
    unfold odd7N
    split
    · exact letterA_w k h
    · exact letter_w k h
  have c98 : (98 : Nat) ∈ codes ∧ (97 : Nat) ∈ codes := by decide
  have hs' := strangers_w s hs
  have hl := letter_w k h
  match j, hj with
  | 0, _ => exact wr_of hn (by simp [odd7R, odd7P, canW, hs'.2]) (by intro t ht; simp [odd7R, odd7P, Part.rules] at ht; subst ht; exact hs'.1) (by simp [odd7R, odd7P, Part.size])
  | 1, _ => exact wr_of hn (by simp [odd7R, odd7P, canW, canWs, hl.2]) (by intro t ht; simp [odd7R, odd7P, Part.rules, Part.ruless] at ht; subst ht; exact hl.1) (by simp [odd7R, odd7P, Part.size, Part.sizes])
  | 2, _ => exact wr_of hn (by simp [odd7R, odd7P, canW, canWs]) (by intro t ht; simp [odd7R, odd7P, Part.rules, Part.ruless] at ht) (by simp [odd7R, odd7P, Part.size, Part.sizes])
  | 3, _ => exact wr_of hn (by simp [odd7R, odd7P, canW, c98.1, c98.2]) (by intro t ht; simp [odd7R, odd7P, Part.rules] at ht) (by simp [odd7R, odd7P, Part.size])
  | 4, _ => exact wr_of hn (by simp [odd7R, odd7P, canW]) (by intro t ht; simp [odd7R, odd7P, Part.rules] at ht) (by simp [odd7R, odd7P, Part.size])
theorem lets7_wr : ∀ r ∈ lets7 ns, Wr7 r := fun r hr => by
  have := many7_lt (ns := ns)
  rcases lets7_mem hr with ⟨k, hk, rfl⟩ | ⟨ho, rfl⟩
  · exact good7_wr (by omega)
  · have := at7_lt ho.1
    exact odd7_wr (by omega) (by omega) str7_mem
theorem zz7_wr : Wr7 (zz7 ns) := wr_of ⟨zz_w.1, zz_w.2.1⟩ (canZ codes7) (by intro t ht; simp [zz7, partZ, Part.rules, Part.ruless] at ht) (by simp [zz7, partZ, Part.size, Part.sizes])
theorem nots_facts : ∀ n, canW (nots n) = true ∧ (nots n).rules = [] ∧ (nots n).size = n + 1 ∧ (nots n).deep = n + 1 ∧ (nots n).good = true
  | 0 => ⟨rfl, by simp [nots, Part.rules], by simp [nots, Part.size], by simp [nots, Part.deep], rfl⟩
  | n + 1 => by
    obtain ⟨h1, h2, h3, h4, h5⟩ := nots_facts n
    exact ⟨by simpa [nots, canW] using h1, by simpa [nots, Part.rules] using h2, by simp [nots, Part.size, h3], by simp [nots, Part.deep, h4], by simpa [nots, Part.good] using h5⟩
theorem deep7_wr {n : Nat} (h : n ≤ 41) : Wr7 (deep7 n) := by
  obtain ⟨h1, h2, h3, _, _⟩ := nots_facts n
  exact wr_of ⟨zz_w.2.2.1, zz_w.2.2.2.1⟩ h1 (by show ∀ s ∈ (nots n).rules, _; rw [h2]; exact all_nil) (by show (nots n).size ≤ 60; omega)
theorem ys_wr {n : Nat} (h : n ≤ 41) : ∀ r ∈ ysR n, Wr7 r := fun r hr => by
  unfold ysR at hr
  obtain ⟨k, hk, rfl⟩ := List.mem_map.mp hr
  have := List.mem_range.mp hk
  exact wr_of (yname_w k (by omega)) rfl (by intro t ht; simp [Part.rules] at ht) (by simp [Part.size])
theorem putIn_all {α : Type} {Q : α → Prop} {l : List α} {x : α} {c : Int} (hl : ∀ y ∈ l, Q y) (hx : Q x) : ∀ y ∈ putIn l x c, Q y := fun y hy => by
  rcases List.mem_cons.mp ((putIn_perm l x c).mem_iff.mp hy) with rfl | h
  · exact hx
  · exact hl y h
theorem app_all {α : Type} {Q : α → Prop} {a b : List α} (ha : ∀ y ∈ a, Q y) (hb : ∀ y ∈ b, Q y) : ∀ y ∈ a ++ b, Q y := fun y hy => by
  rcases List.mem_append.mp hy with h | h
  · exact ha y h
  · exact hb y h
theorem dn7_le (c : Int) : 12 ≤ dn7 c ∧ dn7 c ≤ 41 := by
  unfold dn7
  have := Int.emod_lt_of_pos (c / 8) (show (0 : Int) < 30 by decide)
  have := Int.emod_nonneg (c / 8) (show (30 : Int) ≠ 0 by decide)
  omega
theorem mid7_wr : ∀ r ∈ mid7 ns, Wr7 r := putIn_all lets7_wr zz7_wr
theorem mid7_len : (mid7 ns).length = many7 ns + 1 := by
  unfold mid7
  rw [(putIn_perm _ _ _).length_eq, List.length_cons, lets7_len]
theorem all7R_wr : ∀ r ∈ all7R ns, Wr7 r := by
  unfold all7R
  split
  · exact putIn_all mid7_wr (deep7_wr (dn7_le _).2)
  · split
    · exact app_all mid7_wr (ys_wr (by omega))
    · split
      · exact app_all mid7_wr (all_cons (deep7_wr (by decide)) all_nil)
      · exact mid7_wr
theorem all7R_len : 1 ≤ (all7R ns).length ∧ (all7R ns).length ≤ 41 := by
  have h := many7_lt (ns := ns)
  have h2 := mid7_len (ns := ns)
  unfold all7R
  split
  · rw [(putIn_perm _ _ _).length_eq, List.length_cons]; omega
  · split
    · unfold ysR; rw [List.length_append, List.length_map, List.length_range]; omega
    · split
      · rw [List.length_append]; simp only [List.length_cons, List.length_nil]; omega
      · omega
/-! the rows -/
def bad7 (ns : List Int) : Prop := kind7 ns < 25 ∨ (29 < kind7 ns ∧ kind7 ns < 35)
instance : Decidable (bad7 ns) := by unfold bad7; exact inferInstance
theorem zz7_row : Txt.join " " (W7 ns) = rowT (zz7 ns) := by
  unfold W7
  rw [wordsZ_eq]
  rfl
theorem rows7_good (h : ¬ (kind7 ns < 22 ∨ (29 < kind7 ns ∧ kind7 ns < 35))) : rows7 ns = (mid7 ns).map rowT := by
  unfold rows7 mid7
  rw [putIn_map]
  unfold wz7
  rw [if_neg (by omega), if_neg (by omega), zz7_row]
theorem all7_good (h : ¬ bad7 ns) : all7 ns = (all7R ns).map rowT := by
  unfold bad7 at h
  unfold all7 more7 all7R
  rw [rows7_good (by omega)]
  rw [if_neg (by omega), if_neg (by omega), if_neg (by omega)]
  split
  · rw [putIn_map]
  · split
    · rw [List.map_append, List.length_map]
    · split
      · rw [List.map_append]; rfl
      · rfl
def RowK (row : Str) : Prop := ∃ ws, RowS row ws
theorem Wr7.rowK {r : Str × Part} (h : Wr7 r) : RowK (rowT r) := ⟨_, h.w.rowS⟩
theorem empty_refused : Refused ("" : Str) := ⟨[("" : Str)], ⟨by simp, rfl, all_cons zz_w.2.2.2.2 all_nil, by decide⟩, by unfold rowW; exact if_pos (.inl (by decide))⟩
theorem Refused.rowK {row : Str} (h : Refused row) : RowK row := h.imp fun _ h => h.1
theorem Refused.none {row : Str} (h : Refused row) : rowP row = none := by
  obtain ⟨ws, h1, h2⟩ := h
  rw [h1.row, h2]
theorem wz7_rowK : RowK (Txt.join " " (wz7 ns)) := by
  unfold wz7
  split
  · rename_i h; exact (broken_refused codes7 h _).rowK
  · split
    · rename_i h; exact (signed_refused codes7 h.2 _).rowK
    · rw [zz7_row]; exact zz7_wr.rowK
theorem rows7_rowK : ∀ r ∈ rows7 ns, RowK r := putIn_all (fun y hy => by
  obtain ⟨r, hr, rfl⟩ := List.mem_map.mp hy
  exact (lets7_wr r hr).rowK) wz7_rowK
theorem rows7_len : (rows7 ns).length = many7 ns + 1 := by
  unfold rows7
  rw [(putIn_perm _ _ _).length_eq, List.length_cons, List.length_map, lets7_len]
theorem all7_rowK : ∀ r ∈ all7 ns, RowK r := by
  have e := empty_refused.rowK
  unfold all7 more7
  split
  · exact app_all rows7_rowK (all_cons e all_nil)
  · split
    · exact all_cons e all_nil
    · split
      · exact putIn_all rows7_rowK e
      · split
        · exact putIn_all rows7_rowK (deep7_wr (dn7_le _).2).rowK
        · split
          · refine app_all rows7_rowK fun y hy => ?_
            obtain ⟨r, hr, rfl⟩ := List.mem_map.mp hy
            exact (ys_wr (n := 41 - (rows7 ns).length) (by omega) r hr).rowK
          · split
            · exact app_all rows7_rowK (all_cons (deep7_wr (by decide)).rowK all_nil)
            · exact rows7_rowK
theorem all7_len : 1 ≤ (all7 ns).length ∧ (all7 ns).length ≤ 42 := by
  have h := many7_lt (ns := ns)
  have h2 := rows7_len (ns := ns)
  unfold all7 more7
  split
  · rw [List.length_append]; simp only [List.length_cons, List.length_nil]; omega
  · split
    · decide
    · split
      · rw [(putIn_perm _ _ _).length_eq, List.length_cons]; omega
      · split
        · rw [(putIn_perm _ _ _).length_eq, List.length_cons]; omega
        · split
          · unfold ysR; rw [List.length_append, List.length_map, List.length_map, List.length_range]; omega
          · split
            · rw [List.length_append]; simp only [List.length_cons, List.length_nil]; omega
            · omega
theorem none_of_mem {rows : List Str} {r : Str} (h : r ∈ rows) (hr : rowP r = none) : rowsP rows = none := by
  obtain ⟨i, hi, rfl⟩ := List.getElem_of_mem h
  exact rowsP_none (List.getElem?_eq_getElem hi) hr
theorem mem_putIn {α : Type} {l : List α} {x : α} {c : Int} : x ∈ putIn l x c := (putIn_perm l x c).mem_iff.mpr List.mem_cons_self
theorem wz7_refused (h : kind7 ns < 22 ∨ (29 < kind7 ns ∧ kind7 ns < 35)) : Refused (Txt.join " " (wz7 ns)) := by
  unfold wz7
  split
  · rename_i h; exact broken_refused codes7 h _
  · rename_i h1
    rw [if_pos (by omega)]
    exact signed_refused codes7 (by omega) _
theorem all7_bad (h : bad7 ns) : rowsP (all7 ns) = none := by
  unfold bad7 at h
  by_cases h1 : kind7 ns < 22 ∨ (29 < kind7 ns ∧ kind7 ns < 35)
  · have e : all7 ns = rows7 ns := by
      unfold all7 more7
      rw [if_neg (by omega), if_neg (by omega), if_neg (by omega), if_neg (by omega), if_neg (by omega), if_neg (by omega)]
    rw [e]
    exact none_of_mem (r := Txt.join " " (wz7 ns)) mem_putIn (wz7_refused h1).none
  · refine none_of_mem (r := ("" : Str)) ?_ empty_refused.none
    unfold all7 more7
    split
    · exact List.mem_append_right _ (List.mem_singleton.mpr rfl)
    · split
      · exact List.mem_singleton.mpr rfl
      · rw [if_pos (by omega)]
        exact mem_putIn
theorem rows_back7 : ∀ {rules : Rules}, (∀ r ∈ rules, Wr7 r) → rowsP (rules.map rowT) = some rules
  | [], _ => rfl
  | r :: rules, h => by
    show (rowP (rowT r)).bind (fun x => (rowsP (rules.map rowT)).map fun xs => x :: xs) = _
    rw [(h r List.mem_cons_self).w.back, rows_back7 fun x hx => h x (List.mem_cons_of_mem _ hx)]
    rfl
theorem all7_rules (h : ¬ bad7 ns) : rowsP (all7 ns) = some (all7R ns) := by
  rw [all7_good h]
  exact rows_back7 all7R_wr
/-- the text -/
theorem text7_split : Txt.split (Txt.join "\n" (all7 ns)) "\n" = all7 ns :=
  TL.split_join sp_tl.2.1 sp_tl.2.2.2 (by intro e; have := all7_len (ns := ns); rw [e] at this; exact absurd this.1 (by decide)) fun w hw => by
    obtain ⟨ws, h⟩ := all7_rowK w hw
    exact h.nl
theorem text7_fits : ((all7 ns).map fun t => t.length).sum + (all7 ns).length * (("\n" : Str)).length ≤ 900000 := by
  have h1 := sum_le (k := 20200) (all7 ns) fun w hw => by
    obtain ⟨ws, h⟩ := all7_rowK w hw
    exact h.small
  have h2 := all7_len (ns := ns)
  rw [sp_len.2.1]
  generalize ((all7 ns).map fun t => t.length).sum = a at *
  generalize (all7 ns).length = b at *
  have : b * 20200 ≤ 42 * 20200 := Nat.mul_le_mul_right _ h2.2
  omega
theorem text7_len : (Txt.join "\n" (all7 ns)).length ≤ 900000 := Nat.le_trans (join_le _ _) text7_fits
end G

set_option Elab.async false
set_option linter.all false
set_option maxRecDepth 100000
set_option maxHeartbeats 1000000
/-! The notes that law_k07 writes: what comes of the rules. -/
namespace G
open PySem PySem.Spec PyProof.Rows L2
variable {ns : List Int}
def Out7 (rules : Rules) (due : Nat) : Prop :=
  (due = 2 ∧ ¬ (1 ≤ (rules.map toX).length ∧ (rules.map toX).length ≤ 40 ∧ ∃ r, Valid (rules.map toX) r)) ∨
  ((Valid (rules.map toX) rules ∧ 1 ≤ (rules.map toX).length ∧ (rules.map toX).length ≤ 40) ∧ ((due = 3 ∧ ¬ Known rules) ∨ (Known rules ∧ ((due = 4 ∧ ∀ E, Rings rules E) ∨ (due = 0 ∧ ∀ E, ¬ Rings rules E)))))
def dueL : List Nat := [3, 4, 2, 2, 2, 2]
def odue7 (ns : List Int) : Nat := if isOdd ns then dueL.getD (odd7 ns) 0 else 0
def due7 (ns : List Int) : Nat := if bad7 ns then 1 else if kind7 ns < 28 then 2 else odue7 ns
theorem toX_inj {a b : Str × Part} (h : toX a = toX b) : a = b := by
  have h1 : Dt.str a.1 = Dt.str b.1 := congrArg Prod.fst h
  have h2 : a.2.dt = b.2.dt := congrArg Prod.snd h
  injection h1 with h1
  exact Prod.ext h1 (dt_inj h2)
theorem map_toX_inj : ∀ {a b : Rules}, a.map toX = b.map toX → a = b
  | [], [], _ => rfl
  | [], b :: bs, h => by cases h
  | a :: as, [], h => by cases h
  | a :: as, b :: bs, h => by
    rw [List.map_cons, List.map_cons] at h
    injection h with h1 h2
    rw [toX_inj h1, map_toX_inj h2]
theorem valid_self {rules r : Rules} (h : Valid (rules.map toX) r) : Valid (rules.map toX) rules := by
  have e : rules = r := map_toX_inj (h.eq.trans rfl)
  rw [← e] at h
  exact h
theorem not_valid {rules : Rules} (h : ¬ Valid (rules.map toX) rules) : ¬ (1 ≤ (rules.map toX).length ∧ (rules.map toX).length ≤ 40 ∧ ∃ r, Valid (rules.map toX) r) := fun ⟨_, _, r, hr⟩ => h (valid_self hr)
/-! too deep, too many -/
theorem out_deep (h : kind7 ns = 25 ∨ kind7 ns = 26) : Out7 (all7R ns) 2 := .inl ⟨rfl, not_valid fun hv => by
  have hm : deep7 (dn7 (cell ns 8)) ∈ all7R ns := by
    unfold all7R
    rw [if_pos h]
    exact mem_putIn
  have h1 := (hv.pt _ hm).2
  have h2 := (nots_facts (dn7 (cell ns 8))).2.2.2.1
  have h3 := (dn7_le (cell ns 8)).1
  have : (deep7 (dn7 (cell ns 8))).2 = nots (dn7 (cell ns 8)) := rfl
  rw [this, h2] at h1
  omega⟩
theorem out_many (h : kind7 ns = 27) : Out7 (all7R ns) 2 := .inl ⟨rfl, fun hv => by
  have h1 := hv.2.1
  have h2 := mid7_len (ns := ns)
  have h3 := many7_lt (ns := ns)
  rw [List.length_map] at h1
  unfold all7R at h1
  rw [if_neg (by omega), if_pos h, List.length_append] at h1
  unfold ysR at h1
  rw [List.length_map, List.length_range] at h1
  omega⟩
/-! the rest -/
def end7 (ns : List Int) : Rules := if kind7 ns = 29 then [deep7 11] else []
def fin7 (ns : List Int) : Rules := mid7 ns ++ end7 ns
theorem all7R_fin (h : ¬ bad7 ns) (h2 : ¬ kind7 ns < 28) : all7R ns = fin7 ns := by
  unfold all7R fin7 end7
  rw [if_neg (by omega), if_neg (by omega)]
  split
  · rfl
  · rw [List.append_nil]
theorem end7_mem {r : Str × Part} (h : r ∈ end7 ns) : r = deep7 11 := by
  unfold end7 at h
  split at h
  · exact List.mem_singleton.mp h
  · cases h
theorem fin7_len : 1 ≤ ((fin7 ns).map toX).length ∧ ((fin7 ns).map toX).length ≤ 40 := by
  have h2 := mid7_len (ns := ns)
  have h3 := many7_lt (ns := ns)
  have h4 : (end7 ns).length ≤ 1 := by unfold end7; split <;> simp
  unfold fin7
  rw [List.length_map, List.length_append]
  omega
theorem lets_fin {r : Str × Part} (h : r ∈ lets7 ns) : r ∈ fin7 ns := List.mem_append_left _ ((putIn_perm _ _ _).mem_iff.mpr (List.mem_cons_of_mem _ h))
theorem zz_fin : zz7 ns ∈ fin7 ns := List.mem_append_left _ mem_putIn
theorem odd_mem (h : isOdd ns) (h5 : ¬ (1 < many7 ns ∧ odd7 ns = 5)) : odd7R (min (odd7 ns) 4) (at7 ns) (str7 ns) ∈ lets7 ns := by
  unfold lets7
  rw [if_neg h5]
  unfold odds7
  rw [if_pos h]
  exact List.mem_set (by rw [base7_len]; exact at7_lt h.1) _
theorem nameA_bad : ∀ k < 26, isNameD (.str (mk [97 + k, 65])) = false := by decide +kernel
theorem out_part (h : isOdd ns) (h2 : 2 ≤ odd7 ns) : Out7 (fin7 ns) 2 := .inl ⟨rfl, not_valid fun hv => by
  by_cases h5 : 1 < many7 ns ∧ odd7 ns = 5
  · -- a name stands twice
    have hn := hv.nd
    unfold fin7 at hn
    rw [List.map_append] at hn
    have hn2 := (List.nodup_append.mp hn).1
    have hp : ((mid7 ns).map (·.1)).Perm (((zz7 ns) :: lets7 ns).map (·.1)) := (putIn_perm _ _ _).map _
    have hn3 := hp.nodup_iff.mp hn2
    rw [List.map_cons, List.nodup_cons] at hn3
    have hn4 := hn3.2
    unfold lets7 at hn4
    rw [if_pos h5] at hn4
    have hl := odds7_len (ns := ns)
    generalize odds7 ns = l at *
    match l, hl with
    | [], hl => rw [List.length_nil] at hl; omega
    | [a], hl => rw [List.length_singleton] at hl; omega
    | a :: b :: l, hl =>
      have hn5 : (b.1 :: b.1 :: l.map (·.1)).Nodup := hn4
      rw [List.nodup_cons] at hn5
      exact hn5.1 List.mem_cons_self
  · have hm := lets_fin (odd_mem h h5)
    have hk := at7_lt h.1
    have := many7_lt (ns := ns)
    have hg := (hv.pt _ hm).1
    have hnm := hv.nm _ hm
    have : odd7 ns = 2 ∨ odd7 ns = 3 ∨ odd7 ns = 4 ∨ odd7 ns = 5 := by have := h.2; omega
    rcases this with e | e | e | e <;> rw [e] at hg hnm
    · exact absurd hg (by simp [odd7R, odd7P, Part.good])
    · exact absurd hg (by simp [odd7R, odd7P, Part.good])
    · have := nameA_bad (at7 ns) (by omega)
      rw [show (odd7R (min 4 4) (at7 ns) (str7 ns)).1 = mk [97 + at7 ns, 65] from rfl, this] at hnm
      cases hnm
    · have := nameA_bad (at7 ns) (by omega)
      rw [show (odd7R (min 5 4) (at7 ns) (str7 ns)).1 = mk [97 + at7 ns, 65] from rfl, this] at hnm
      cases hnm⟩
theorem set_map {α β : Type} (f : α → β) : ∀ (l : List α) (i : Nat) (a : α), (∀ x, l[i]? = some x → f x = f a) → (l.set i a).map f = l.map f
  | [], i, a, h => rfl
  | b :: l, 0, a, h => by
    rw [List.set_cons_zero, List.map_cons, List.map_cons, h b rfl]
  | b :: l, i + 1, a, h => by
    rw [List.set_cons_succ, List.map_cons, List.map_cons, set_map f l i a h]
theorem lets_names (h : ¬ isOdd ns ∨ odd7 ns < 2) : (lets7 ns).map (·.1) = (List.range (many7 ns)).map letter := by
  have hb : (base7 ns).map (·.1) = (List.range (many7 ns)).map letter := by
    unfold base7
    rw [List.map_map]
    rfl
  have h5 : ¬ (1 < many7 ns ∧ odd7 ns = 5) := fun ⟨h1, h2⟩ => by
    rcases h with h | h
    · exact h ⟨by omega, by omega⟩
    · omega
  unfold lets7
  rw [if_neg h5]
  unfold odds7
  split
  · rename_i ho
    rw [set_map, hb]
    intro x hx
    have hl : odd7 ns < 2 := h.resolve_left fun q => q ho
    unfold base7 at hx
    rw [List.getElem?_map, List.getElem?_range (at7_lt ho.1)] at hx
    cases hx
    show letter (at7 ns) = odd7N (min (odd7 ns) 4) (at7 ns)
    unfold odd7N
    rw [if_neg (by omega)]
  · exact hb
theorem fin_names (h : ¬ isOdd ns ∨ odd7 ns < 2) {s : Str} : s ∈ (fin7 ns).map (·.1) → s = "zz" ∨ s = "deep" ∨ ∃ k, k < many7 ns ∧ s = letter k := fun hs => by
  unfold fin7 at hs
  rw [List.map_append, List.mem_append] at hs
  rcases hs with hs | hs
  · have hp : ((mid7 ns).map (·.1)).Perm (((zz7 ns) :: lets7 ns).map (·.1)) := (putIn_perm _ _ _).map _
    have := hp.mem_iff.mp hs
    rw [List.map_cons, List.mem_cons, lets_names h] at this
    rcases this with h | h
    · exact .inl h
    · obtain ⟨k, hk, rfl⟩ := List.mem_map.mp h
      exact .inr (.inr ⟨k, List.mem_range.mp hk, rfl⟩)
  · obtain ⟨r, hr, rfl⟩ := List.mem_map.mp hs
    rw [end7_mem hr]
    exact .inr (.inl rfl)
theorem letters_no : ∀ k < 26, letter k ∉ strangers7 ∧ letter k ≠ "zz" ∧ letter k ≠ "deep" := by decide +kernel
theorem zz_no : ("zz" : Str) ∉ strangers7 ∧ ("deep" : Str) ∉ strangers7 ∧ ("zz" : Str) ≠ "deep" ∧ isNameD (.str "zz") = true ∧ isNameD (.str "deep") = true := by decide +kernel
theorem fin_mem7 (h : ¬ isOdd ns ∨ odd7 ns < 2) {r : Str × Part} (hr : r ∈ fin7 ns) : r = zz7 ns ∨ r = deep7 11 ∨ (∃ k, k < many7 ns ∧ r = good7 k) ∨ (isOdd ns ∧ r = odd7R (odd7 ns) (at7 ns) (str7 ns)) := by
  rcases List.mem_append.mp hr with hr | hr
  · rcases List.mem_cons.mp ((putIn_perm _ _ _).mem_iff.mp hr) with hr | hr
    · exact .inl hr
    · rcases lets7_mem hr with hr | ⟨ho, hr⟩
      · exact .inr (.inr (.inl hr))
      · have hl : odd7 ns < 2 := h.resolve_left fun q => q ho
        rw [Nat.min_eq_left (by omega)] at hr
        exact .inr (.inr (.inr ⟨ho, hr⟩))
  · exact .inr (.inl (end7_mem hr))
theorem partZ_good {c lo hi : Nat} (hc : CodesZ c lo hi) (hl : lo ≤ hi) : (partZ c lo hi).good = true ∧ (partZ c lo hi).deep ≤ 12 ∧ (partZ c lo hi).rules = [] := by
  refine ⟨by simp [partZ, Part.good, Part.goods, hc.c, hc.lo, hc.hi, hl], by simp [partZ, Part.deep, Part.deeps], by simp [partZ, Part.rules, Part.ruless]⟩
theorem lohi : lo7 ns ≤ hi7 ns := by unfold lo7 hi7; split <;> omega
theorem fin_valid7 (h : ¬ isOdd ns ∨ odd7 ns < 2) : Valid ((fin7 ns).map toX) (fin7 ns) where
  eq := rfl
  nd := by
    have hm := many7_lt (ns := ns)
    unfold fin7
    rw [List.map_append, List.nodup_append]
    have hp : ((mid7 ns).map (·.1)).Perm (((zz7 ns) :: lets7 ns).map (·.1)) := (putIn_perm _ _ _).map _
    refine ⟨hp.nodup_iff.mpr ?_, ?_, fun a ha b hb q => ?_⟩
    · rw [List.map_cons, List.nodup_cons, lets_names h]
      refine ⟨fun q => ?_, nodup_map4 (fun a b h => letter_inj h) List.nodup_range⟩
      obtain ⟨k, hk, e⟩ := List.mem_map.mp q
      exact (letters_no k (by have := List.mem_range.mp hk; omega)).2.1 e
    · unfold end7
      split <;> simp
    · subst q
      obtain ⟨r, hr, e⟩ := List.mem_map.mp hb
      rw [end7_mem hr] at e
      have := hp.mem_iff.mp ha
      rw [← e, List.map_cons, List.mem_cons, lets_names h] at this
      rcases this with h | h
      · exact zz_no.2.2.1 h.symm
      · obtain ⟨k, hk, e⟩ := List.mem_map.mp h
        exact (letters_no k (by have := List.mem_range.mp hk; omega)).2.2 e
  nm := fun r hr => by
    have hm := many7_lt (ns := ns)
    rcases fin_names h (List.mem_map.mpr ⟨r, hr, rfl⟩) with e | e | ⟨k, hk, e⟩ <;> rw [e]
    · exact zz_no.2.2.2.1
    · exact zz_no.2.2.2.2
    · exact nm_mk (by simp) (by simp) fun x hx => by simp at hx; omega
  pt := fun r hr => by
    rcases fin_mem7 h hr with rfl | rfl | ⟨k, hk, rfl⟩ | ⟨ho, rfl⟩
    · exact ⟨(partZ_good codes7 lohi).1, (partZ_good codes7 lohi).2.1⟩
    · exact ⟨(nots_facts 11).2.2.2.2, by show (nots 11).deep ≤ 12; rw [(nots_facts 11).2.2.2.1]; decide⟩
    · exact ⟨by simp [good7, Part.good, Part.goods], by simp [good7, Part.deep, Part.deeps]⟩
    · have hl : odd7 ns < 2 := h.resolve_left fun q => q ho
      have : odd7 ns = 0 ∨ odd7 ns = 1 := by omega
      rcases this with e | e <;> rw [e]
      · exact ⟨by simp [odd7R, odd7P, Part.good], by simp [odd7R, odd7P, Part.deep]⟩
      · exact ⟨by simp [odd7R, odd7P, Part.good, Part.goods], by simp [odd7R, odd7P, Part.deep, Part.deeps]⟩
theorem fin_unknown7 (ho : isOdd ns) (h0 : odd7 ns = 0) : ¬ Known (fin7 ns) := fun hk => by
  have hm := many7_lt (ns := ns)
  have hmem := lets_fin (odd_mem ho (by omega))
  rw [h0] at hmem
  have h1 := hk _ hmem (str7 ns) (by simp [odd7R, odd7P, Part.rules])
  have hs := str7_mem (ns := ns)
  rcases fin_names (.inr (by omega)) h1 with e | e | ⟨k, hk, e⟩ <;> rw [e] at hs
  · exact zz_no.1 hs
  · exact zz_no.2.1 hs
  · exact (letters_no k (by omega)).1 hs
theorem fin_known7 (h : ¬ isOdd ns ∨ odd7 ns = 1) : Known (fin7 ns) := fun r hr s hs => by
  have h' : ¬ isOdd ns ∨ odd7 ns < 2 := h.imp_right fun h => by omega
  have inz : ("zz" : Str) ∈ (fin7 ns).map (·.1) := List.mem_map.mpr ⟨_, zz_fin, rfl⟩
  rcases fin_mem7 h' hr with rfl | rfl | ⟨k, hk, rfl⟩ | ⟨ho, rfl⟩
  · rw [show (zz7 ns).2.rules = [] from (partZ_good codes7 lohi).2.2] at hs
    cases hs
  · rw [show (deep7 11).2.rules = [] from (nots_facts 11).2.1] at hs
    cases hs
  · simp [good7, Part.rules, Part.ruless] at hs
    rw [hs]
    exact inz
  · have e : odd7 ns = 1 := h.resolve_left fun q => q ho
    rw [e] at hs
    simp [odd7R, odd7P, Part.rules, Part.ruless] at hs
    rw [hs]
    have hmem := lets_fin (odd_mem ho (by omega))
    rw [e] at hmem
    exact List.mem_map.mpr ⟨_, hmem, rfl⟩
theorem fin_rings7 (ho : isOdd ns) (h1 : odd7 ns = 1) (E : List Str) : Rings (fin7 ns) E := by
  have hmem := lets_fin (odd_mem ho (by omega))
  rw [h1] at hmem
  refine ⟨_, hmem, .one (l := (odd7P 1 (at7 ns) (str7 ns)).ahead (memB E)) (List.mem_map.mpr ⟨_, hmem, rfl⟩) ?_⟩
  show letter (at7 ns) ∈ _
  simp [odd7P, Part.ahead, Part.aheadOr]
theorem fin_noring7 (h : ¬ isOdd ns) (E : List Str) : ¬ Rings (fin7 ns) E := fun ⟨r, hr, hR⟩ => by
  have hm := many7_lt (ns := ns)
  have key : ∀ x ∈ aheads (fin7 ns) E, ∀ t ∈ x.2, t = "zz" ∧ x.1 ≠ "zz" := fun x hx t ht => by
    obtain ⟨r, hr, rfl⟩ := List.mem_map.mp hx
    have ht' := ahead_rules _ _ t ht
    rcases fin_mem7 (.inl h) hr with rfl | rfl | ⟨k, hk, rfl⟩ | ⟨ho, rfl⟩
    · rw [show (zz7 ns).2.rules = [] from (partZ_good codes7 lohi).2.2] at ht'
      cases ht'
    · rw [show (deep7 11).2.rules = [] from (nots_facts 11).2.1] at ht'
      cases ht'
    · simp [good7, Part.rules, Part.ruless] at ht'
      exact ⟨ht', (letters_no k (by omega)).2.1⟩
    · exact absurd ho h
  have all : ∀ {t}, Reach (aheads (fin7 ns) E) r.1 t → t = "zz" ∧ r.1 ≠ "zz" := fun {t} hR => by
    induction hR with
    | one h1 h2 => exact key _ h1 _ h2
    | more h1 h2 h3 ih => exact absurd ih.1 (key _ h2 _ h3).2
  exact (all hR).2 (all hR).1
theorem out7 (h : ¬ bad7 ns) : Out7 (all7R ns) (due7 ns) := by
  unfold due7
  rw [if_neg h]
  split
  · rename_i h2
    unfold bad7 at h
    by_cases e : kind7 ns = 27
    · exact out_many e
    · exact out_deep (by omega)
  · rename_i h2
    rw [all7R_fin h h2]
    unfold odue7
    split
    · rename_i ho
      have := ho.2
      by_cases e0 : odd7 ns = 0
      · rw [e0]
        exact .inr ⟨⟨fin_valid7 (.inr (by omega)), fin7_len⟩, .inl ⟨rfl, fin_unknown7 ho e0⟩⟩
      · by_cases e1 : odd7 ns = 1
        · rw [e1]
          exact .inr ⟨⟨fin_valid7 (.inr (by omega)), fin7_len⟩, .inr ⟨fin_known7 (.inr e1), .inl ⟨rfl, fin_rings7 ho e1⟩⟩⟩
        · have e : dueL.getD (odd7 ns) 0 = 2 := by
            have : odd7 ns = 2 ∨ odd7 ns = 3 ∨ odd7 ns = 4 ∨ odd7 ns = 5 := by omega
            rcases this with e | e | e | e <;> rw [e] <;> rfl
          rw [e]
          exact out_part ho (by omega)
    · rename_i ho
      exact .inr ⟨⟨fin_valid7 (.inl ho), fin7_len⟩, .inr ⟨fin_known7 (.inl ho), .inr ⟨rfl, fin_noring7 ho⟩⟩⟩
/-! where nothing is wrong -/
theorem due_zero (h : due7 ns = 0) : ¬ bad7 ns ∧ ¬ kind7 ns < 28 ∧ ¬ isOdd ns := by
  unfold due7 at h
  split at h
  · cases h
  · split at h
    · cases h
    · refine ⟨by assumption, by assumption, fun ho => ?_⟩
      unfold odue7 at h
      rw [if_pos ho] at h
      have := ho.2
      have : odd7 ns = 0 ∨ odd7 ns = 1 ∨ odd7 ns = 2 ∨ odd7 ns = 3 ∨ odd7 ns = 4 ∨ odd7 ns = 5 := by omega
      rcases this with e | e | e | e | e | e <;> rw [e] at h <;> cases h
theorem good_okX {r : Str × Part} (hr : r ∈ fin7 ns) (h : ¬ isOdd ns) : OkX (.str r.1) 1 ∧ OkX r.2.dt 30 := by
  have hm := many7_lt (ns := ns)
  have hv := fin_valid7 (ns := ns) (.inl h)
  have z : OkX (.str ("zz" : Str)) 1 := okX_lit (by decide +kernel)
  have d : OkX (.str ("deep" : Str)) 1 := okX_lit (by decide +kernel)
  refine ⟨?_, okX_dt (hv.pt r hr).1 ?_ ?_ (by have := (hv.pt r hr).2; omega)⟩
  · rcases fin_names (.inl h) (List.mem_map.mpr ⟨r, hr, rfl⟩) with e | e | ⟨k, hk, e⟩ <;> rw [e]
    · exact z
    · exact d
    · exact okX_letter (by omega)
  · have : r ∈ all7R ns ∨ True := .inr trivial
    rcases fin_mem7 (.inl h) hr with rfl | rfl | ⟨k, hk, rfl⟩ | ⟨ho, rfl⟩
    · exact Nat.le_trans zz7_wr.size (by decide)
    · exact Nat.le_trans (deep7_wr (by decide)).size (by decide)
    · exact Nat.le_trans (good7_wr (by omega)).size (by decide)
    · exact absurd ho h
  · intro s hs
    have hs' := fin_known7 (.inl h) r hr s hs
    have : OkX (.str s) 1 := by
      rcases fin_names (.inl h) hs' with e | e | ⟨k, hk, e⟩ <;> rw [e]
      · exact z
      · exact d
      · exact okX_letter (by omega)
    exact okRule (l := [s]) (all_cons this all_nil) s (by simp)
end G

set_option Elab.async false
set_option linter.all false
set_option maxRecDepth 100000
set_option maxHeartbeats 2000000
/-! Comprehensions whose parts change things, or whose targets are pairs; isinstance of an object. -/
namespace G
open PySem PySem.Spec PyProof.Rows L2
section
variable {X : Cx} {F : Hp} {δ : Sl} {elt iter : Expr} {L : List (Addr × HO)} {pos px : Pos} {n n1 n2 : Str} {Γ : Gm} {N : List Str} {sc scope : Scope}
structure LcJ (δ : Sl) (P : Nat → List Dt → Mm → Prop) (F2 H2 : Hp) (D : Addr) (j : Nat) (H : Hp) : Prop where
  ex : ∃ F' acc m out, P j out m ∧ Ext δ.m F2 H2 F' H m ∧ D ∉ m.ads ∧ F' D = none ∧ H D = some (.lst acc) ∧ RepA F' acc out
theorem lc_gen {α : Type} {l : List α} {g0 : α → Dt} (wv : TI) (hI : ∀ (F1 H : Hp) (σ : L2.St) (R : It → Hp → Prop), Same F F1 → Ctx F1 H σ δ → (∀ J F' H', Ex δ.m F1 H F' H' → Yields J F' L (l.map g0) → R J H') → wv σ H R)
    (vs : List Nat) (gt : TG) (sl : α → List (Option Dt)) (h0 : ∀ F H σ m, Ctx F H σ (δ.to m) → Ctx F H (L2.wipe σ vs) (δ.to m))
    (hg : ∀ d ∈ l, ∀ (m : Mm) (F1 H : Hp) (σ : L2.St) (v : V) (Q : L2.St → Hp → Prop), Same F F1 → Ctx F1 H (L2.wipe σ vs) (δ.to m) → Rep F1 v (g0 d) → (∀ σ2, L2.wipe σ2 vs = L2.wipe σ vs → Ctx F1 H σ2 ⟨sl d, m⟩ → Q σ2 H) → gt v (L2.wipe σ vs) H Q)
    (P : Nat → List Dt → Mm → Prop) (hP0 : P 0 [] δ.m) (hz : l.length < sizeLine) (hPl : ∀ j out m, P j out m → out.length ≤ j) (hL : ∀ j out m, P j out m → ∀ p ∈ L, (p.1, Md.lck p.2) ∈ m)
    (he : ∀ j d out m, l[j]? = some d → P j out m → InB Γ N sc scope fun X' => EmD X' F elt ⟨sl d, m⟩ (fun z => ∃ y m', z = .ok y m' ∧ P (j + 1) (out ++ [y]) m'))
    (F1 H : Hp) (σ : L2.St) (Q : VK) (s : Same F F1) (cc : Ctx F1 H σ δ) (k : ∀ D F' H' out m', P l.length out m' → D ∉ m'.ads → Ext δ.m F1 H F' H' ((D, .lst out) :: m') → Q (.ref D) H') : tLc wv gt tYes (TWE Γ N sc scope elt) vs σ H Q := by
  refine hI F1 H σ _ s cc fun J F2 H2 e2 Y => ?_
  intro D hD
  refine ⟨fun j k H' => k = l.length - j ∧ j ≤ l.length ∧ LcJ δ P F2 H2 D j H', ⟨l.length, by simp, Nat.zero_le _, ⟨F2, [], δ.m, [], hP0, Ext.mk0 e2.st hD _, e2.st.ads_ne hD, e2.st.fr hD, upd_same, .nil⟩⟩, ?_⟩
  rintro j kk H' ⟨rfl, hj, LI⟩
  obtain ⟨F', acc, m, out, hP, e1, nD, h5, h6, h7⟩ := LI.ex
  have lk : Lk L H' := fun q hq => by
    obtain ⟨_, o, z1, z2⟩ := e1.st.cell q.1 _ (hL j out m hP q hq)
    cases z2
    exact z1
  by_cases hlt : j < l.length
  · have hx : l[j]? = some l[j] := List.getElem?_eq_getElem hlt
    refine .inr ⟨Y.go j H' (e1.ff.trans e1.sub) lk (by rw [List.length_map]; exact hlt), fun H'' => LcJ δ P F2 H2 D (j + 1) H'', fun H'' hh => ⟨l.length - (j + 1), by omega, rfl, hlt, hh⟩, fun x H'' hy => ?_⟩
    obtain ⟨F'', e'', r''⟩ := Y.yld j (g0 l[j]) m F' H' x H'' (by rw [List.getElem?_map, hx]; rfl) e1.ff e1.st lk hy
    have c0 : Ctx F'' H'' σ (δ.to m) := (cc.to (e2.trans e1)).to e''
    have sF : Same F F'' := ((s.trans e2.ff).trans e1.ff).trans e''.ff
    refine hg l[j] (List.getElem_mem hlt) m F'' H'' σ x _ sF (h0 _ _ _ _ c0) r'' fun σ2 hw ci => ⟨hw, ?_⟩
    show TWE Γ N sc scope elt _ H'' _
    intro X' B'
    have hD' : H' D ≠ none := by rw [h6]; exact fun z => (nomatch z)
    refine he j l[j] out m hx hP X' B' F'' H'' σ2 _ (fun _ _ _ _ => False) sF takesN0 ci fun r hr => ?_
    obtain ⟨y, m', rfl, hP'⟩ := hr
    intro v F4 H4 e4 r4
    have e14 : Ext m F' H' F4 H4 m' := e''.trans e4
    have e24 : Ext δ.m F2 H2 F4 H4 m' := e1.trans e14
    have hacc : acc.length = out.length := h7.length
    have hout := hPl j out m hP
    refine ⟨acc, e14.hh _ _ h6 nD, by omega, ?_⟩
    have fD : F4 D = none := by rw [e14.new D hD' nD]; exact h5
    have nD' : D ∉ m'.ads := fun q => by
      rcases e14.own D q with q | q
      · exact nD q
      · exact hD' q
    refine ⟨F4, acc ++ [v], m', out ++ [y], hP', ⟨e24.ff, fun b o q n => ?_, e24.new, e24.own, ?_, fun p c hp => ?_, e24.st.nd⟩, nD', fD, upd_same, (h7.mono e14.ff).append (.cons r4 .nil)⟩
    · rw [upd_ne (ne_of_none q hD)]; exact e24.hh _ _ q n
    · intro b o q
      rw [upd_ne (ne_of_none q fD)]
      exact e24.sub _ _ q
    · obtain ⟨q1, o, q2, q3⟩ := e24.st.cell p c hp
      have n : p ≠ D := fun e => nD' (e ▸ List.mem_map.mpr ⟨_, hp, rfl⟩)
      exact ⟨q1, o, by rw [upd_ne n]; exact q2, q3⟩
  · have ej : j = l.length := by omega
    subst ej
    refine .inl ⟨Y.stop _ H' (e1.ff.trans e1.sub) lk (by rw [List.length_map]; exact Nat.le_refl _), ?_⟩
    refine k D F' H' out m hP nD (e2.trans ⟨e1.ff, e1.hh, e1.new, fun a ha => ?_, e1.st.sub, fun p c hp => ?_, ?_⟩)
    · rw [Mm.ads, List.map_cons, List.mem_cons] at ha
      rcases ha with rfl | ha
      · exact .inr hD
      · exact e1.own a ha
    · rcases List.mem_cons.mp hp with q | q
      · cases q
        exact ⟨h5, _, h6, .lst h7⟩
      · exact e1.st.cell p c q
    · rw [Mm.ads, List.map_cons, List.nodup_cons]
      exact ⟨nD, e1.st.nd⟩
/-- [elt for n in iter], where elt changes things -/
theorem m_lcM {α : Type} {l : List α} {g0 : α → Dt} [B : Bd X Γ N sc] (i : Nat) (P : Nat → List Dt → Mm → Prop) (hI : IterD X F L (.Name n px) iter δ (l.map g0)) (h0 : δ.s[i]? = some none) (hP0 : P 0 [] δ.m) (hPl : ∀ j out m, P j out m → out.length ≤ j)
    (he : ∀ j d out m, l[j]? = some d → P j out m → InB Γ N sc scope fun X' => EmD X' F elt ((δ.to m).set i (some (g0 d))) (fun z => ∃ y m', z = .ok y m' ∧ P (j + 1) (out ++ [y]) m')) (hz : l.length < sizeLine) (hL : ∀ j out m, P j out m → ∀ p ∈ L, (p.1, Md.lck p.2) ∈ m := by exact fun _ _ _ _ _ h => nomatch h)
    (ok : blkC N sc scope [(n, i)] = true := by decide +kernel) (hi : N[i]? = some n := by rfl) (hx : (relS scope sc).names.lookup n = some .local := by decide +kernel)
    (hs : ∀ x, foldedSetIterable iter X.env x = pure x := by intro _; rfl) : EmD X F (.ListComp elt [⟨.Name n px, iter, [], 0⟩] scope pos) δ (fun z => ∃ out m', P l.length out m' ∧ NewL m' out z) := fun F1 H σ Q W s t cc k =>
  we (pe_lc (own := [(n, i)]) (g := gName i) (tt := tYes) (te := TWE Γ N sc scope elt) B.calm (by rw [B.hN]; exact B.nd) pi (by rw [B.hN, B.hsc]; exact blkOk_by ok) (fun s H C cl fp => pg_name (X := X.blk s H scope (compEnvC scope cl C X.env) fp) (by show X.N.Nodup; rw [B.hN]; exact B.nd) (by show X.N[i]? = some n; rw [B.hN]; exact hi) (.inl (by rw [B.blk.hsc]; exact hx)) (.inr (by rw [B.blk.hsc]; exact hx))) (fun _ _ _ _ _ => pts_nil) (fun s H C cl fp => ⟨fun pins s' σ H' Q I h => (h _ B.blk).go pins s' I⟩) hs)
    (lc_gen (scope := scope) (WI X (.Name n px) iter) (fun F1 H σ R s c k => hI F1 H σ R s c k) [i] (gName i) (fun d => δ.s.set i (some (g0 d))) (fun F H σ m c => c.wipe h0) (fun d _ m F1 H σ v Q _ c r q => q _ wipe1 (c.set i r)) P hP0 hz hPl hL he F1 H σ Q s cc (fun D F' H' out m' hP hD e => k _ ⟨out, m', hP, D, hD, rfl⟩ _ F' H' e (.ref D)))
theorem wipe_two {σ : L2.St} {i j : Nat} {x y : Option V} : wipe (((wipe σ [i, j]).set i x).set j y) [i, j] = wipe σ [i, j] := by
  show (((((σ.set j none).set i none).set i x).set j y).set j none).set i none = (σ.set j none).set i none
  rw [List.set_set, List.set_set]
  by_cases h : i = j
  · subst h
    simp [List.set_set]
  · rw [List.set_comm _ _ h, List.set_set, List.set_set]
theorem Ctx.wipe_two {H : Hp} {σ : L2.St} {i j : Nat} (c : Ctx F H σ δ) (h : δ.s[i]? = some none) (h' : δ.s[j]? = some none) : Ctx F H (L2.wipe σ [i, j]) δ := (c.wipe h').wipe h
/-- [elt for n1, n2 in iter] -/
theorem d_lcT {α : Type} {l : List α} {x y : α → Dt} {kk : Nat} {tp p1 p2 : Pos} [B : Bd X Γ N sc] (i j : Nat) (f : α → Dt) (hI : IterD X F L (.Tuple [.Name n1 p1, .Name n2 p2] kk tp) iter δ (l.map fun d => .tup [x d, y d])) (h0 : δ.s[i]? = some none) (h1 : δ.s[j]? = some none)
    (he : ∀ d ∈ l, InB Γ N sc scope fun X' => EvD X' F elt ((δ.set i (some (x d))).set j (some (y d))) (f d)) (hz : l.length < sizeLine) (hL : ∀ p ∈ L, (p.1, Md.lck p.2) ∈ δ.m := by exact fun _ h => nomatch h)
    (ok : blkC N sc scope [(n1, i), (n2, j)] = true := by decide +kernel) (hi : N[i]? = some n1 := by rfl) (hj : N[j]? = some n2 := by rfl) (hx : (relS scope sc).names.lookup n1 = some .local := by decide +kernel) (hy : (relS scope sc).names.lookup n2 = some .local := by decide +kernel)
    (hs : ∀ x, foldedSetIterable iter X.env x = pure x := by intro _; rfl) : EvD X F (.ListComp elt [⟨.Tuple [.Name n1 p1, .Name n2 p2] kk tp, iter, [], 0⟩] scope pos) δ (.lst (l.map f)) := fun F1 H σ Q s cc k =>
  we (pe_lc (own := [(n1, i), (n2, j)]) (g := gTup X.K 2 (gCons (gName i) (gCons (gName j) gNil))) (tt := tYes) (te := TWE Γ N sc scope elt) B.calm (by rw [B.hN]; exact B.nd) pi (by rw [B.hN, B.hsc]; exact blkOk_by ok)
    (fun s H C cl fp => pg_tup (X := X.blk s H scope (compEnvC scope cl C X.env) fp) B.blk.calm (pgs_cons (pg_name (X := X.blk s H scope (compEnvC scope cl C X.env) fp) (by show X.N.Nodup; rw [B.hN]; exact B.nd) (by show X.N[i]? = some n1; rw [B.hN]; exact hi) (.inl (by rw [B.blk.hsc]; exact hx)) (.inr (by rw [B.blk.hsc]; exact hx))) (pgs_cons (pg_name (X := X.blk s H scope (compEnvC scope cl C X.env) fp) (by show X.N.Nodup; rw [B.hN]; exact B.nd) (by show X.N[j]? = some n2; rw [B.hN]; exact hj) (.inl (by rw [B.blk.hsc]; exact hy)) (.inr (by rw [B.blk.hsc]; exact hy))) pgs_nil)))
    (fun _ _ _ _ _ => pts_nil) (fun s H C cl fp => ⟨fun pins s' σ H' Q I h => (h _ B.blk).go pins s' I⟩) hs)
    (lc_gen (scope := scope) (WI X _ iter) (fun F1 H σ R s c k => hI F1 H σ R s c k) [i, j] (gTup X.K 2 (gCons (gName i) (gCons (gName j) gNil))) (fun d => (δ.s.set i (some (x d))).set j (some (y d))) (fun F H σ m c => c.wipe_two h0 h1) (fun d _ m F1 H σ v Q s c r q => by
      cases r with
      | tup hp ra =>
        cases ra with
        | cons r1 ra =>
          cases ra with
          | cons r2 ra =>
            cases ra
            exact ⟨_, _, rfl, SqT.of (c.sub _ _ hp), rfl, _, _, rfl, _, _, rfl, rfl, q _ wipe_two ((c.set i r1).set j r2)⟩)
      (fun k out m => m = δ.m ∧ out = (l.take k).map f) ⟨rfl, rfl⟩ hz (fun k out m h => by rw [h.2, List.length_map, List.length_take]; exact Nat.min_le_left _ _) (fun k out m h p hp => by rw [h.1]; exact hL p hp) (fun k d out m hd h X' B' => by
        obtain ⟨rfl, rfl⟩ := h
        refine (he d (List.mem_of_getElem? hd) X' B').em.mono fun z hz => ⟨f d, δ.m, hz, rfl, ?_⟩
        rw [List.take_succ, hd, List.map_append]
        rfl) F1 H σ Q s cc (fun D F' H' out m' hP hD e => by
        obtain ⟨rfl, rfl⟩ := hP
        rw [List.take_length] at e
        exact frz_k k e))
end
end G
namespace G
open PySem PySem.Spec PyProof.Rows L2
section
variable {X : Cx} {F : Hp} {δ : Sl} {a b : Expr} {pos p : Pos} {n : Str} {Γ : Gm} {N : List Str} {sc : Scope} {q : Addr}
theorem d_gref [B : Bd X Γ N sc] {C : Addr} (hm : Γ.mg n = some (.ref C)) (hg : glB sc n = true := by decide +kernel) : EvD X F (.Name n pos) δ (.ref C) :=
  fun F1 H σ Q _ c k => we (pe_glob (v := .ref C) (B.gl hg).1 (by rw [B.mg]; exact hm) rfl (B.gl hg).2.1) (k _ F1 H (.refl c.st) (.ref C))
/-- isinstance(a grammar, Grammar) -/
theorem d_isiG [B : Bd X Γ N sc] (j : Nat) {fs : List (Str × Dt)} (hm : Γ.mg "isinstance" = none) (ha : EvD X F a δ (.ref q)) (hj : δ.m[j]? = some (q, .ins (He.ga Γ.K "Grammar") fs)) (hb : EvD X F b δ (.ref (He.ga Γ.K "Grammar"))) (cl : Cls Γ.K (He.ga Γ.K "Grammar")) (g : GraAt Γ.K)
    (hg : glB sc "isinstance" = true := by decide +kernel) (he : starEach [a, b] X.env = (false, eval a X.env) :: starEach [b] X.env := by first | exact plSt | rfl) (he2 : starEach [b] X.env = (false, eval b X.env) :: starEach [] X.env := by first | exact plSt | rfl) (hpl : (backTo pos (starEach [b] X.env)).any (·.1) = false := by rfl) :
    EvD X F (.Call (.Name "isinstance" p) [a, b] [] pos) δ (.bl true) := fun F1 H σ Q s c k =>
  we (pe_callB call_isi (B.gl hg).1 (by rw [B.mg]; exact hm) (by decide +kernel) pa (B.gl hg).2.2 (B.gl hg).2.1 he hpl) (a_cons ha (a_one hb he2) he F1 H σ _ s c fun vs F2 H2 e2 r2 => by
    cases r2 with
    | cons r1 r2 =>
      cases r2 with
      | cons r2 r3 =>
        cases r3
        cases r1
        cases r2
        obtain ⟨dx, xs, h1, _⟩ := e2.st.ins hj
        exact ⟨_, _, _, _, true, rfl, .own _, .base (.ins h1 (by rw [B.K]; exact cl) (by rw [B.K]; exact g.ha) (by rw [B.K]; exact g.hn) (by rw [B.K]; exact g.ht) (by rw [B.K]; exact g.hm)), by rw [B.K]; exact g.hk, k _ F2 H2 e2 (.bl true)⟩)
end
end G
namespace G
open PySem PySem.Spec PyProof.Rows L2
section
variable {X : Cx} {F : Hp} {δ : Sl} {e elt iter : Expr} {d : Dt} {rest : List Stmt} {O : Out → Prop} {pos spos py px : Pos} {n nm : Str} {scope : Scope} {L : List (Addr × HO)} {Γ : Gm} {N : List Str} {sc : Scope}
/-- the memory in another order -/
theorem EmD.perm {s : List (Option Dt)} {m m' : Mm} {R : Rem → Prop} (h : EmD X F e ⟨s, m'⟩ R) (w : SubP m' m) : EmD X F e ⟨s, m⟩ R := fun F1 H σ Q W s1 t c k => by
  have e0 : Ext m F1 H F1 H m' := (Ext.refl c.st).wk w
  refine h F1 H σ Q W s1 t (c.to e0) fun r hr => ?_
  have := k r hr
  cases r with
  | ok d m2 => exact fun v F' H' e' r' => this v F' H' (e0.trans e') r'
  | err C m2 => exact fun F' H' σ' e' => this F' H' σ' (e0.trans e')
theorem EvD.perm {s : List (Option Dt)} {m m' : Mm} (h : EvD X F e ⟨s, m'⟩ d) (w : SubP m' m) (w2 : SubP m m') : EvD X F e ⟨s, m⟩ d := fun F1 H σ Q s1 c k => by
  have e0 : Ext m F1 H F1 H m' := (Ext.refl c.st).wk w
  exact h F1 H σ Q s1 (c.to e0) fun v F' H' e' r' => k v F' H' ((e0.trans e').wk w2) r'
/-- name = [.. for ..], on one line, whose parts change things -/
theorem s_setLcM {α : Type} {l : List α} {g0 : α → Dt} [B : Bd X Γ N sc] [Bf X] (j i : Nat) (P : Nat → List Dt → Mm → Prop) (hI : IterD X F L (.Name n px) iter δ (l.map g0)) (h0 : δ.s[i]? = some none) (hP0 : P 0 [] δ.m) (hPl : ∀ j out m, P j out m → out.length ≤ j)
    (he : ∀ j d out m, l[j]? = some d → P j out m → InB Γ N sc scope fun X' => EmD X' F elt ((δ.to m).set i (some (g0 d))) (fun z => ∃ y m', z = .ok y m' ∧ P (j + 1) (out ++ [y]) m')) (hz : l.length < sizeLine)
    (hr : ∀ out m', P l.length out m' → SD X F rest ((δ.to m').set j (some (.lst out))) O) (hL : ∀ j out m, P j out m → ∀ p ∈ L, (p.1, Md.lck p.2) ∈ m := by exact fun _ _ _ _ _ h => nomatch h)
    (ok : blkC N sc scope [(n, i)] = true := by decide +kernel) (hi : N[i]? = some n := by rfl) (hx : (relS scope sc).names.lookup n = some .local := by decide +kernel)
    (hs : ∀ x, foldedSetIterable iter X.env x = pure x := by intro _; rfl)
    (hy : N[j]? = some nm := by rfl) (hyl : sc.names.lookup nm = some .local := by decide +kernel) (hk : sc.kind = .function := by rfl) (hl : (py.line == pos.line) = true := by rfl) (ha : (scope.names.any fun (n, k) => n == nm && (k == .local || k == .cell)) = false := by decide +kernel) :
    SD X F (.Assign [.Name nm py] (.ListComp elt [⟨.Name n px, iter, [], 0⟩] scope pos) spos :: rest) δ O := fun F1 H σ D W s t cc p =>
  wss (pss_cons (ps_setLc (i := j) (own := [(n, i)]) (g := gName i) (tt := tYes) (te := TWE Γ N sc scope elt) B.calm (by rw [B.hN]; exact B.nd) (by rw [B.hN]; exact hy) (by rw [B.hsc]; exact hyl) (sw_true (by rw [B.hsc]; exact hk) (by rw [B.hsc]; exact hyl) hl ha) pi (by rw [B.hN, B.hsc]; exact blkOk_by ok) (fun s H C cl fp => pg_name (X := X.blk s H scope (compEnvC scope cl C X.env) fp) (by show X.N.Nodup; rw [B.hN]; exact B.nd) (by show X.N[i]? = some n; rw [B.hN]; exact hi) (.inl (by rw [B.blk.hsc]; exact hx)) (.inr (by rw [B.blk.hsc]; exact hx))) (fun _ _ _ _ _ => pts_nil) (fun s H C cl fp => ⟨fun pins s' σ H' Q I h => (h _ B.blk).go pins s' I⟩) hs) pss)
    (lc_gen (scope := scope) (WI X (.Name n px) iter) (fun F1 H σ R s c k => hI F1 H σ R s c k) [i] (gName i) (fun d => δ.s.set i (some (g0 d))) (fun F H σ m c => c.wipe h0) (fun d _ m F1 H σ v Q _ c r q => q _ wipe1 (c.set i r)) P hP0 hz hPl hL he F1 H σ (fun v H' => WSs X rest D (σ.set j (some v)) H') s cc (fun D' F' H' out m' hP hD e' => by
      obtain ⟨_, o, h1, h2⟩ := e'.st.cell D' _ List.mem_cons_self
      cases h2 with
      | lst r =>
        have e1 := Ext.frz (j := 0) e'.st rfl h1
        have e2 := e'.trans e1
        exact hr out m' hP _ H' _ D W (s.trans e2.ff) t ((cc.to e2).set j (.lst upd_same (r.mono e1.ff))) fun o ho => (p o ho).ext e2))
end
end G

set_option Elab.async false
set_option linter.all false
set_option maxRecDepth 100000
set_option maxHeartbeats 1000000
/-! A text over and over; a truth as a number. -/
namespace G
open PySem PySem.Spec PyProof.Rows L2
section
variable {X : Cx} {Γ : Gm} {N : List Str} {sc : Scope} {F : Hp} {δ : Sl} {e a b : Expr} {p pos : Pos} {i j : Int} {d : Dt}
def repT (t : Str) (k : Nat) : Str := ⟨(List.replicate k t.cps).foldl (· ++ ·) #[]⟩
theorem foldl_size (t : Array Nat) : ∀ (k : Nat) (acc : Array Nat), ((List.replicate k t).foldl (· ++ ·) acc).size = acc.size + k * t.size
  | 0, acc => by simp
  | k + 1, acc => by
    rw [List.replicate_succ, List.foldl_cons, foldl_size t k, Array.size_append, Nat.succ_mul]
    omega
theorem op_repT : OpR X (binaryOp .Mult) (fun x y H Q => ∃ (t : Str) (k : Nat), x = .str t ∧ y = .int k ∧ k ≤ 1000 ∧ t.length ≤ 1000 ∧ t.length ≠ 0 ∧ Q (.str (repT t k)) H) := by
  intro pins s σ H x y v u Q I rx ry h
  obtain ⟨t0, k, rfl, rfl, hk, ht, ht0, q⟩ := h
  obtain ⟨t, rfl⟩ := rx
  obtain ⟨t', rfl⟩ := ry
  have hm : t0.length * k ≤ 1000 * 1000 := Nat.mul_le_mul ht hk
  refine PySem.P.mul_str ?_ (fun _ _ => ?_) (fun _ _ => ?_) ?_
  · rw [decide_eq_false (by omega), decide_eq_false (by omega)]; rfl
  · show ¬ ((t0.length : Nat) : Int) > _
    by_cases h0 : k = 0
    · subst h0; omega
    · have h1 : (0 : Int) < (k : Int) := by omega
      intro h
      have : (2 ^ 63 - 1) / (k : Int) ≥ (t0.length : Nat) := by
        apply Int.le_ediv_of_mul_le h1
        have : ((t0.length : Nat) : Int) * (k : Nat) = ((t0.length * k : Nat) : Int) := by push_cast; rfl
        rw [this]
        omega
      omega
  · show Builtin.Str.tooLong (t0.length * (k : Int).toNat) = false
    rw [Int.toNat_natCast]
    unfold Builtin.Str.tooLong
    exact decide_eq_false (by simp [sizeLine]; omega)
  · by_cases h0 : (k : Int) < 1
    · rw [if_pos h0]
      have : k = 0 := by omega
      subst this
      exact ⟨by decide, .str _, H, I.tok _, ⟨_, rfl⟩, q⟩
    · rw [if_neg h0]
      by_cases h1 : k = 1
      · subst h1
        show Made.post (Made.val (Value.str t0 t)) (EP X pins σ Q) s
        refine ⟨.str _, H, I, ⟨_, rfl⟩, ?_⟩
        have : repT t0 1 = t0 := by
          unfold repT
          simp
        rw [this] at q
        exact q
      · have h2 : ((k : Int) == 1 || (t0 : Str).length == 0) = false := by
          have h3 : ((k : Int) == 1) = false := by
            rw [beq_eq_false_iff_ne]; omega
          have h4 : (t0.length == 0) = false := by
            rw [beq_eq_false_iff_ne]; exact ht0
          rw [h3, h4]; rfl
        rw [if_neg (by rw [h2]; exact Bool.false_ne_true)]
        rw [Int.toNat_natCast]
        refine ⟨?_, .str (repT t0 k), H, I.tok _, ⟨s.toks, rfl⟩, q⟩
        show ((List.replicate k t0.cps).foldl (· ++ ·) #[]).size ≤ _
        rw [foldl_size]
        have : (#[] : Array Nat).size = 0 := rfl
        have e : t0.cps.size = t0.length := rfl
        rw [this, e, Nat.mul_comm]
        exact Nat.le_trans (by omega : _ ≤ 1000 * 1000) (by decide)
theorem d_repT {t : Str} {k : Nat} (ha : EvD X F a δ (.str t)) (hb : EvD X F b δ (.int (k : Nat))) (hk : k ≤ 1000) (ht : t.length ≤ 1000) (h0 : t.length ≠ 0) : EvD X F (.BinOp a .Mult b pos) δ (.str (repT t k)) := d_op op_repT ha hb fun m F1 H vx vy Q s s1 rx ry kk => by
  cases rx; cases ry
  exact ⟨t, k, rfl, rfl, hk, ht, h0, kk _ F1 H (.refl s1) (.str _)⟩
theorem call_int_bl : CallR X (.type "int") (fun xs H Q => ∃ b : Bool, xs = [.bl b] ∧ Q (.int (if b then 1 else 0)) H) := by
  intro pins s σ H xs us Q I rs h
  obtain ⟨b, rfl, h⟩ := h
  cases rs with
  | cons r1 rs =>
    cases rs
    obtain rfl := r1
    exact PySem.call_int_bool ⟨.int _, H, I.tok _, ⟨_, rfl⟩, h⟩
theorem d_intB [B : Bd X Γ N sc] {t : Bool} (hm : Γ.mg "int" = none) (h : EvD X F e δ (.bl t)) (hg : glB sc "int" = true := by decide +kernel) (he : starEach [e] X.env = (false, eval e X.env) :: starEach [] X.env := by first | exact plSt | rfl) :
    EvD X F (.Call (.Name "int" p) [e] [] pos) δ (.int (if t then 1 else 0)) := d_bt call_int_bl hm (by decide +kernel) (a_one h he) (rc_one fun m F1 H v Q s s1 r q => by
  cases r
  exact ⟨t, rfl, q _ F1 H (.refl s1) (.int _)⟩) hg he pl0
end
end G

set_option Elab.async false
set_option linter.all false
set_option maxRecDepth 100000
set_option maxHeartbeats 4000000
/-! The law's cells; some helpers. -/
namespace Law
open PySem PySem.Spec PyProof.Rows L2 G
section
variable {P : Program} {w : World} {K : PySem.W.Frag} {mg : Str → Option Value} {base : Heap}
/-! cells, signs -/
def pCell (K : PySem.W.Frag) (F : Hp) (ds : List Dt) (r : Res) : Prop := ∃ (a : Addr) (ns : List Int) (k : Int), ds = [.ref a, .int k] ∧ SqL K F a (ns.map V.int) ∧ 0 ≤ k ∧ r = .ok (.int (cell ns k))
theorem ok_cell (T : Txt K mg) : Cal P w K mg base CX0 1 "_law_cell_at" (spR (pCell K)) := by
  obtain ⟨f, fd, a⟩ := T.d_law_cell_at
  refine a.cal (fn_D a.fn sc_law_cell_at (fun F ds r h => ?_) (fun F ds C h => ?_) (fun X A B Bf hr F ds d h => ?_))
  · obtain ⟨_, _, _, rfl, _⟩ := h; rfl
  · obtain ⟨_, _, _, _, _, _, h⟩ := h; cases h
  obtain ⟨l, ns, k, rfl, hq, h0, hd⟩ := h
  cases hd
  refine s_when (t_lt (d_v 1 rfl) (d_lenQ T.b_len (d_v 0 rfl) hq)) (fun hk => ?_) (fun hk => ?_)
  · have hk' : k < (ns.length : Int) := by simpa using of_decide_eq_true hk
    exact s_ret (d_ixQ (d_v 0 rfl) (d_v 1 rfl) hq (cell_some h0 hk')) rfl
  · have hk' : ¬ k < (ns.length : Int) := by simpa using of_decide_eq_false hk
    exact s_ret d_int (by rw [cell_none h0 hk']; rfl)
theorem atI_get {α : Type} (f : α → Dt) (l : List α) (i : Int) (df : α) (h0 : 0 ≤ i) (h : i < (l.length : Nat)) : atI (l.map f) i = some (f (l.getD i.toNat df)) := by
  obtain ⟨m, rfl⟩ : ∃ m : Nat, i = m := ⟨i.toNat, by omega⟩
  have hm : m < l.length := by omega
  refine atI_nat ?_
  rw [List.getElem?_map, List.getElem?_eq_getElem hm, Int.toNat_natCast, List.getD_eq_getElem?_getD, List.getElem?_eq_getElem hm]
  rfl
theorem cdv {i j : Int} (h1 : 0 < j := by decide) (h2 : j < 1073741824 := by decide) : CDiv i j := ⟨h1, h2⟩
theorem cmul_r {i j : Int} (h : -(2 ^ 64) < j ∧ j < 2 ^ 64 := by decide) : CMul i j := .inr h
theorem range_at {n k : Nat} (f : Nat → Dt) (h : k < n) : atI ((List.range n).map f) (k : Nat) = some (f k) := by
  refine atI_nat ?_
  rw [List.getElem?_map, List.getElem?_range h]
  rfl
end
end Law

set_option Elab.async false
set_option linter.all false
set_option maxRecDepth 100000
set_option maxHeartbeats 4000000
/-! The law's marks of an error. -/
namespace Law
open PySem PySem.Spec PyProof.Rows L2 G
open L2H (RoomH)
section
variable {P : Program} {w : World} {K : PySem.W.Frag} {mg : Str → Option Value} {base : Heap}
/-- the handled error is one of the class x -/
structure IsErr (K : PySem.W.Frag) (p : Addr × Obj) (x : Str) : Prop where
  zc : L2.Zc (.ref (He.ga K x)) none p.2
  fl : ∃ vs, p.2.data = .fields vs
def marksOf (x : Str) : List Bool := (excNames.map fun y => decide (x = y)) ++ [true, true]
theorem marks_split (x : Str) : (marksOf x).map Dt.bl = ([Dt.bl (decide (x = "NoGrammar")), .bl (decide (x = "NoRule")), .bl (decide (x = "Circling"))] ++ [Dt.bl (decide (x = "OutOfPlace")), .bl (decide (x = "TooLong")), .bl (decide (x = "NoNotes"))]) ++ [Dt.bl true, .bl true] := rfl
def pMarks (K : PySem.W.Frag) (p : Addr × Obj) (_ : Hp) (ds : List Dt) (d : Dt) : Prop := ∃ x, x ∈ excNames ∧ IsErr K p x ∧ ds = [.ref p.1] ∧ d = .lst ((marksOf x).map .bl)
theorem ok_marks (T : Txt K mg) : CalE P w K mg base 1 "_law_marks" (spE (pMarks K)) := by
  obtain ⟨f, fd, a⟩ := T.d_law_marks
  refine a.calE (fn_Ed a.fn sc_law_marks (fun p F ds d h => ?_) (fun X A p B hr F ds d h => ?_))
  · obtain ⟨_, _, _, rfl, _⟩ := h; rfl
  obtain ⟨x, hx, he, rfl, rfl⟩ := h
  have E := err_at T.q hx
  have own : ∀ y ∈ excNames, PySem.W.kitOne K (.ref (He.ga K x)) (.ref (He.ga K y)) = some (decide (x = y)) := E.own
  refine s_asgH 1 (d_lst (a_cons (h_isE T.b_isinstance E.c he.zc he.fl (h_v 0 rfl) (h_cls T.e_NoGrammar.g) rfl (own "NoGrammar" (by decide +kernel))) (a_cons (h_isE T.b_isinstance E.c he.zc he.fl (h_v 0 rfl) (h_cls T.e_NoRule.g) rfl (own "NoRule" (by decide +kernel))) (a_one (h_isE T.b_isinstance E.c he.zc he.fl (h_v 0 rfl) (h_cls T.e_Circling.g) rfl (own "Circling" (by decide +kernel))))))) ?_
  refine s_asgH 1 (d_cat (h_v 1 rfl) (d_lst (a_cons (h_isE T.b_isinstance E.c he.zc he.fl (h_v 0 rfl) (h_cls T.e_OutOfPlace.g) rfl (own "OutOfPlace" (by decide +kernel))) (a_cons (h_isE T.b_isinstance E.c he.zc he.fl (h_v 0 rfl) (h_cls T.e_TooLong.g) rfl (own "TooLong" (by decide +kernel))) (a_one (h_isE T.b_isinstance E.c he.zc he.fl (h_v 0 rfl) (h_cls T.e_NoNotes.g) rfl (own "NoNotes" (by decide +kernel))))))) (show 3 + 3 ≤ sizeLine by decide)) ?_
  refine s_ret (d := .lst ((marksOf x).map .bl)) (EvD.to (d_cat (h_v 1 rfl) (d_lst (a_cons (h_isE T.b_isinstance E.c he.zc he.fl (h_v 0 rfl) (h_cls T.e_GrammarError.g) rfl E.ge) (a_one (h_isE T.b_isinstance E.c he.zc he.fl (h_v 0 rfl) (h_bty T.b_ValueError) rfl E.ve)))) (show 6 + 2 ≤ sizeLine by decide)) (by rw [marks_split])) rfl
def pAlone (K : PySem.W.Frag) (p : Addr × Obj) (_ : Hp) (ds : List Dt) (d : Dt) : Prop := ∃ (i : Nat) (x : Str), excNames[i]? = some x ∧ IsErr K p x ∧ ds = [.ref p.1, .int (i : Nat)] ∧ d = .bl true
theorem ok_alone (T : Txt K mg) : CalE P w K mg base 2 "_law_alone" (spE (pAlone K)) := by
  obtain ⟨f, fd, a⟩ := T.d_law_alone
  have hM := ok_marks (P := P) (w := w) (base := base) T
  refine a.calE (fn_Ed a.fn sc_law_alone (fun p F ds d h => ?_) (fun X A p B hr F ds d h => ?_))
  · obtain ⟨_, _, _, _, rfl, _⟩ := h; rfl
  obtain ⟨i, x, hi, he, rfl, rfl⟩ := h
  have hx : x ∈ excNames := List.mem_of_getElem? hi
  have e0 : marksOf x = (List.range 8).map fun k => decide (k = i) || decide (5 < k) := by
    have hil : i < 6 := (List.getElem?_eq_some_iff.mp hi).1
    match i, hil with
    | 0, _ => cases hi; decide +kernel
    | 1, _ => cases hi; decide +kernel
    | 2, _ => cases hi; decide +kernel
    | 3, _ => cases hi; decide +kernel
    | 4, _ => cases hi; decide +kernel
    | 5, _ => cases hi; decide +kernel
    | n + 6, h => omega
  have e : (marksOf x).map Dt.bl = (List.range 8).map fun k => Dt.bl (decide (k = i) || decide (5 < k)) := by rw [e0, List.map_map]; rfl
  have ok : okE (.lst ((marksOf x).map .bl)) = true := by
    rw [e0]
    have hb : ∀ bs : List Bool, clDs (bs.map Dt.bl) = true ∧ PyData.canLayAll0 ((bs.map Dt.bl).map pyD) = true ∧ PyData.depthAll ((bs.map Dt.bl).map pyD) ≤ 1 := fun bs => by
      induction bs with
      | nil => exact ⟨rfl, by simp [PyData.canLayAll0], by simp [PyData.depthAll]⟩
      | cons b bs ih =>
        obtain ⟨i1, i2, i3⟩ := ih
        refine ⟨?_, ?_, ?_⟩
        · rw [List.map_cons, clDs, i1]; simp [clD]
        · rw [List.map_cons, List.map_cons, PyData.canLayAll0, i2, pyD]; simp [PyData.canLay0]
        · rw [List.map_cons, List.map_cons, PyData.depthAll, pyD]
          refine Nat.max_le.mpr ⟨?_, i3⟩
          simp [PyData.depth]
    obtain ⟨b1, b2, b3⟩ := hb ((List.range 8).map fun k => decide (k = i) || decide (5 < k))
    unfold okE SeqAt.shaped
    rw [pyD_lst, clD, b1, PyData.canLay0, b2, PyData.depth]
    exact decide_eq_true (by omega)
  refine s_ret (d := .bl true) (EvD.to (h_eqD hr (h_call hM hr (a_one (h_v 0 rfl)) (fun F1 _ => ⟨x, hx, he, rfl, rfl⟩)) (EvD.to (h_lcR (j := 8) 2 (fun k => .bl (decide (k = i) || decide (5 < k))) T.b_range d_int (by decide) (by decide) rfl (fun k hk X' B' => ?_) (by decide)) (d' := .lst ((marksOf x).map .bl)) (by rw [e]; rfl)) ok ok) (by rw [eqv_self ok])) rfl
  refine EvD.to (d_orB (p := decide (k = i)) (q := decide (5 < k)) (EvD.to (d_eq (h_v 2 rfl) (h_v 1 rfl)) ?_) (fun _ => d_one (EvD.to (d_gt (h_v 2 rfl) d_int) ?_))) rfl
  · show Dt.bl (decide ((0 : Int) + (k : Nat) = (i : Nat))) = _
    congr 1
    rw [decide_eq_decide]
    omega
  · show Dt.bl (decide ((5 : Int) < 0 + (k : Nat))) = _
    congr 1
    rw [decide_eq_decide]
    omega
theorem slot_get {N : List Str} {sl : Nat} {n : Str} (h : N[sl]? = some n) (a : Addr) : (slotD N (some sl) a)[sl]? = some (some (.ref a)) := by
  unfold slotD
  rw [List.getElem?_set_self]
  rw [List.length_replicate]
  exact (List.getElem?_eq_some_iff.mp h).1
/-- except X as _law_error: return _law_alone(_law_error, i) -/
theorem caughtA {A : Around} {N : List Str} {sc : Scope} {F : Hp} {O : Out → Prop} {l : List Cls1} {m : Mm} {x : Str} {i : Nat} {i' : Int} {sl jj : Nat} {p1 p2 p3 p4 p5 : Pos} (hA : CalE P w K mg base 2 "_law_alone" (spE (pAlone K))) (hr : Room 2 A) (hi : excNames[i]? = some x) (hx : PySem.W.exmOne K (.ref (He.ga K x)) (.ref (He.ga K x)) = some true)
    (ho : O (.ret (.bl true) m)) (hi' : i' = (i : Nat) := by rfl) (hs : N[sl]? = some "_law_error" := by rfl) (hv : visB sc "_law_error" = true := by decide +kernel) (hg : glB sc "_law_alone" = true := by decide +kernel) :
    Caught ⟨P, w, K, mg, base, A⟩ N sc F O ((.ref (He.ga K x), some sl, [.Return (some (.Call (.Name "_law_alone" p1) [.Name "_law_error" p2, .Constant (.int i') jj p3] [] p4)) p5]) :: l) (He.ga K x) m :=
  ⟨true, hx, fun _ X' q oe B' zn hf => s_ret (h_call hA (room_hot (Γ := ⟨P, w, K, mg, base, A⟩) hr q) (a_cons (h_v sl (slot_get hs q) hs hv) (a_one d_int)) (fun F1 _ => ⟨i, x, hi, ⟨⟨zn.1, zn.2.1⟩, hf⟩, by rw [hi'], rfl⟩) hg) ho, fun h => nomatch h⟩
/-- except X as _law_error: return [e, _law_alone(_law_error, i)] -/
theorem caughtB {A : Around} {N : List Str} {sc : Scope} {F : Hp} {O : Out → Prop} {l : List Cls1} {m : Mm} {x : Str} {i : Nat} {i' : Int} {sl jj : Nat} {p1 p2 p3 p4 p5 p6 : Pos} {e1 : Expr} {d1 : Dt} [Pl e1] (hA : CalE P w K mg base 2 "_law_alone" (spE (pAlone K))) (hr : Room 2 A) (hi : excNames[i]? = some x) (hx : PySem.W.exmOne K (.ref (He.ga K x)) (.ref (He.ga K x)) = some true)
    (he : ∀ (X : Cx) (F : Hp) (δ : Sl), EvD X F e1 δ d1) (ho : O (.ret (.lst [d1, .bl true]) m)) (hi' : i' = (i : Nat) := by rfl) (hs : N[sl]? = some "_law_error" := by rfl) (hv : visB sc "_law_error" = true := by decide +kernel) (hg : glB sc "_law_alone" = true := by decide +kernel) :
    Caught ⟨P, w, K, mg, base, A⟩ N sc F O ((.ref (He.ga K x), some sl, [.Return (some (.List [e1, .Call (.Name "_law_alone" p1) [.Name "_law_error" p2, .Constant (.int i') jj p3] [] p4] p6)) p5]) :: l) (He.ga K x) m :=
  ⟨true, hx, fun _ X' q oe B' zn hf => s_ret (d_lst (a_cons (he X' F _) (a_one (h_call hA (room_hot (Γ := ⟨P, w, K, mg, base, A⟩) hr q) (a_cons (h_v sl (slot_get hs q) hs hv) (a_one d_int)) (fun F1 _ => ⟨i, x, hi, ⟨⟨zn.1, zn.2.1⟩, hf⟩, by rw [hi'], rfl⟩) hg)))) ho, fun h => nomatch h⟩
/-- a clause that does not catch -/
theorem caughtN {A : Around} {N : List Str} {sc : Scope} {F : Hp} {O : Out → Prop} {l : List Cls1} {m : Mm} {C : Addr} {c : Value} {o : Option Nat} {su : List Stmt} (hx : PySem.W.exmOne K (.ref C) c = some false) (h : Caught ⟨P, w, K, mg, base, A⟩ N sc F O l C m) : Caught ⟨P, w, K, mg, base, A⟩ N sc F O ((c, o, su) :: l) C m :=
  ⟨false, hx, (fun h => nomatch h), fun _ => h⟩
end
end Law

set_option Elab.async false
set_option linter.all false
set_option maxRecDepth 100000
set_option maxHeartbeats 4000000
/-! The law's signs. -/
namespace Law
open PySem PySem.Spec PyProof.Rows L2 G
section
variable {P : Program} {w : World} {K : PySem.W.Frag} {mg : Str → Option Value} {base : Heap}
def pSign (_ : Hp) (ds : List Dt) (r : Res) : Prop := ∃ n : Int, ds = [.int n] ∧ r = .ok (.str (sg (sgn n)))
theorem ok_sign (T : Txt K mg) : Cal P w K mg base CX0 1 "_law_sign_by" (spR pSign) := by
  obtain ⟨f, fd, a⟩ := T.d_law_sign_by
  refine a.cal (fn_D a.fn sc_law_sign_by (fun F ds r h => ?_) (fun F ds C h => ?_) (fun X A B Bf hr F ds d h => ?_))
  · obtain ⟨_, rfl, _⟩ := h; rfl
  · obtain ⟨_, _, h⟩ := h; cases h
  obtain ⟨n, rfl, hd⟩ := h
  cases hd
  refine s_asg 1 d_str (s_asg 1 (d_adds (d_v 1 rfl) d_str (by decide +kernel)) ?_)
  exact s_ret (d_ixS (d_v 1 rfl) (d_mod (d_v 0 rfl) d_int (by decide)) (by decide +kernel) (sgn_at (by decide +kernel) n)) rfl
end
end Law

set_option Elab.async false
set_option linter.all false
set_option maxRecDepth 100000
set_option maxHeartbeats 1000000
/-! law_k07: the law's writing. -/
namespace G
open PySem PySem.Spec PyProof.Rows L2
theorem cut_tk (xs : List Dt) (n : Nat) : cutD xs none (some (n : Nat)) = xs.take n := by
  unfold cutD
  rw [HT.sIx_none, HT.sIx_nat, List.drop_zero, Nat.sub_zero]
  rcases Nat.le_total n xs.length with h | h
  · rw [Nat.min_eq_left h]
  · rw [Nat.min_eq_right h, List.take_length, List.take_of_length_le h]
theorem cut_dp (xs : List Dt) (n : Nat) : cutD xs (some (n : Nat)) none = xs.drop n := by
  unfold cutD
  rw [HT.sIx_none, HT.sIx_nat]
  rcases Nat.le_total n xs.length with h | h
  · rw [Nat.min_eq_left h, List.take_of_length_le (by rw [List.length_drop]; omega)]
  · rw [Nat.min_eq_right h, List.drop_of_length_le (Nat.le_refl _), List.drop_of_length_le h]
    simp
theorem cut_dl (xs : List Dt) (h : xs ≠ []) : cutD xs none (some (-1)) = xs.dropLast := by
  have hp : 0 < xs.length := List.length_pos_iff.mpr h
  unfold cutD
  rw [HT.sIx_none, List.drop_zero, Nat.sub_zero, List.dropLast_eq_take]
  have e : HT.sIx xs.length xs.length (some (-1)) = ((-1 : Int) + (xs.length : Int)).toNat := by
    unfold HT.sIx
    exact if_pos (by decide)
  rw [e]
  congr 1
  omega
section
variable {X : Cx} {F : Hp} {δ : Sl} {e i : Expr} {p2 pos : Pos} {ws : List Str} {n : Nat}
abbrev wD (ws : List Str) : Dt := .lst (ws.map .str)
theorem d_tk (h : EvD X F e δ (wD ws)) (hi : EvD X F i δ (.int (n : Nat))) : EvD X F (.Subscript e (.Slice none (some i) none p2) pos) δ (wD (ws.take n)) :=
  (d_sliceL h .none (.some hi)).to (congrArg Dt.lst (by rw [cut_tk, List.map_take]))
theorem d_dp (h : EvD X F e δ (wD ws)) (hi : EvD X F i δ (.int (n : Nat))) : EvD X F (.Subscript e (.Slice (some i) none none p2) pos) δ (wD (ws.drop n)) :=
  (d_sliceL h (.some hi) .none).to (congrArg Dt.lst (by rw [cut_dp, List.map_drop]))
theorem d_dl (h : EvD X F e δ (wD ws)) (hi : EvD X F i δ (.int (-1))) (hne : ws ≠ []) : EvD X F (.Subscript e (.Slice none (some i) none p2) pos) δ (wD ws.dropLast) :=
  (d_sliceL h .none (.some hi)).to (congrArg Dt.lst (by rw [cut_dl _ (by simpa using hne), List.map_dropLast]))
theorem d_wcat {a b : Expr} {vs : List Str} (ha : EvD X F a δ (wD ws)) (hb : EvD X F b δ (wD vs)) (hz : ws.length + vs.length ≤ 1000) : EvD X F (.BinOp a .Add b pos) δ (wD (ws ++ vs)) :=
  (d_cat ha hb (by rw [List.length_map, List.length_map]; exact Nat.le_trans hz (by decide))).to (congrArg Dt.lst (by rw [List.map_append]))
theorem d_w1 {a : Expr} {s : Str} (ha : EvD X F a δ (.str s)) (he : starEach [a] X.env = (false, eval a X.env) :: starEach [] X.env := by first | exact plSt | rfl) : EvD X F (.List [a] pos) δ (wD [s]) := d_lst (ds := [.str s]) (a_one ha he) (by show 1 ≤ 1000; decide)
theorem d_nx {a : Expr} {q q1 : Pos} {jj : Nat} (h : EvD X F a δ (.int (n : Nat))) : EvD X F (.BinOp a .Add (.Constant (.int 1) jj q) q1) δ (.int ((n + 1 : Nat) : Int)) := (d_add h d_int).to (congrArg Dt.int (by omega))
end
open TL (tl joinL)
abbrev J7 (ws : List Str) : List Nat := joinL [32] (ws.map tl)
theorem row_tl (s : Str) (p : Part) : tl (rowT (s, p)) = tl s ++ ([32] ++ (tl ("=" : Str) ++ ([32] ++ J7 (wordsP p)))) := by
  show tl (Txt.join " " (s :: "=" :: wordsP p)) = _
  have hne : (wordsP p).map tl ≠ [] := fun h => by
    have := congrArg List.length h
    have h2 := words_pos p
    rw [List.length_map, List.length_nil] at this
    omega
  rw [TL.join_eq, TL.tl_join, sp_tl.1, List.map_cons, List.map_cons, joinL_two7 _ _ (by simp), joinL_two7 _ _ hne]
theorem row_of {s x : Str} {p : Part} (h : tl x = [32] ++ (tl ("=" : Str) ++ ([32] ++ J7 (wordsP p)))) : s ++ x = rowT (s, p) := TL.ext_tl (by rw [TL.tl_append, row_tl, h])
theorem is_tl : tl (" = " : Str) = [32] ++ (tl ("=" : Str) ++ [32]) := by decide +kernel
theorem row_of2 {s x : Str} {p : Part} (h : tl x = J7 (wordsP p)) : s ++ " = " ++ x = rowT (s, p) := TL.ext_tl (by
  rw [TL.tl_append, TL.tl_append, row_tl, h, is_tl]
  simp only [List.append_assoc])
theorem row_any (s : Str) : s ++ " = any" = rowT (s, .any) := row_of (by decide +kernel)
theorem row_good (k : Nat) : letter k ++ " = or 2 rule zz any" = rowT (good7 k) := row_of (by decide +kernel)
theorem repT_succ (t : Str) (k : Nat) : tl (repT t (k + 1)) = tl t ++ tl (repT t k) := by
  have key : ∀ (k : Nat) (acc : Array Nat), ((List.replicate k t.cps).foldl (· ++ ·) acc).toList = acc.toList ++ ((List.replicate k t.cps).foldl (· ++ ·) #[]).toList := fun k => by
    induction k with
    | zero => intro acc; simp
    | succ k ih =>
      intro acc
      rw [List.replicate_succ, List.foldl_cons, List.foldl_cons, ih, ih (#[] ++ t.cps)]
      simp [List.append_assoc]
  show ((List.replicate (k + 1) t.cps).foldl (· ++ ·) #[]).toList = t.cps.toList ++ ((List.replicate k t.cps).foldl (· ++ ·) #[]).toList
  rw [List.replicate_succ, List.foldl_cons, key]
  simp
theorem not_tl : tl ("not " : Str) = tl ("not" : Str) ++ [32] := by decide +kernel
theorem nots_tl : ∀ n, tl (repT "not " n) ++ tl ("any" : Str) = J7 (wordsP (nots n))
  | 0 => by decide +kernel
  | n + 1 => by
    have hne : (wordsP (nots n)).map tl ≠ [] := fun h => by
      have := congrArg List.length h
      have h2 := words_pos (nots n)
      rw [List.length_map, List.length_nil] at this
      omega
    rw [repT_succ, List.append_assoc, nots_tl n, nots, wordsP, not_tl]
    show _ = joinL [32] (tl ("not" : Str) :: (wordsP (nots n)).map tl)
    rw [joinL_two7 _ _ hne, List.append_assoc]
theorem deep_tl : tl ("deep = " : Str) = tl ("deep" : Str) ++ tl (" = " : Str) := by decide +kernel
theorem row_deep (n : Nat) : (("deep = " : Str) ++ repT "not " n) ++ "any" = rowT (deep7 n) := TL.ext_tl (by
  show _ = tl (rowT ("deep", nots n))
  rw [TL.tl_append, TL.tl_append, row_tl, List.append_assoc, nots_tl, deep_tl, is_tl]
  simp only [List.append_assoc])
def oddRows (k : Nat) (s : Str) : List Str := ["rule " ++ s, "or 2 not any rule " ++ letter k, "or 0", "span 98 97", "any"]
theorem rule_tl : tl ("rule " : Str) = tl ("rule" : Str) ++ [32] := by decide +kernel
theorem own_tl : tl ("or 2 not any rule " : Str) = tl ("or" : Str) ++ ([32] ++ (tl (numS 2) ++ ([32] ++ (tl ("not" : Str) ++ ([32] ++ (tl ("any" : Str) ++ ([32] ++ (tl ("rule" : Str) ++ [32])))))))) := by decide +kernel
theorem odd_rows (k : Nat) (s : Str) : ∀ j < 5, tl ((oddRows k s).getD j "") = J7 (wordsP (odd7P j k s)) := fun j hj => by
  match j, hj with
  | 0, _ =>
    show tl ("rule " ++ s) = J7 (wordsP (.rule s))
    rw [TL.tl_append, rule_tl, wordsP, List.append_assoc]
    rfl
  | 1, _ =>
    show tl ("or 2 not any rule " ++ letter k) = J7 (wordsP (.or [.not .any, .rule (letter k)]))
    rw [TL.tl_append, own_tl]
    simp only [wordsP, wordsPs, List.append_assoc, List.length_cons, List.length_nil]
    rfl
  | 2, _ =>
    show tl ("or 0" : Str) = J7 (wordsP (.or []))
    decide +kernel
  | 3, _ =>
    show tl ("span 98 97" : Str) = J7 (wordsP (.span 98 97))
    decide +kernel
  | 4, _ =>
    show tl ("any" : Str) = J7 (wordsP .any)
    decide +kernel
theorem A_text : (∀ k < 4, letter k ++ repT "A" 1 = mk [97 + k, 65]) ∧ (∀ k < 4, letter k ++ repT "A" 0 = letter k) := by decide +kernel
theorem row_odd {k j : Nat} (hk : k < 4) (hj : j < 5) (s : Str) : ((letter k ++ repT "A" (if j = 4 then 1 else 0)) ++ " = ") ++ (oddRows k s).getD j "" = rowT (odd7R j k s) := by
  have e : letter k ++ repT "A" (if j = 4 then 1 else 0) = odd7N j k := by
    unfold odd7N
    split
    · exact A_text.1 k hk
    · exact A_text.2 k hk
  rw [e]
  exact row_of2 (odd_rows k s j hj)
end G

set_option Elab.async false
set_option linter.all false
set_option maxRecDepth 100000
set_option maxHeartbeats 1000000
/-! law_k07: the law's writing, walked. -/
namespace Law
open PySem PySem.Spec PyProof.Rows L2 G
section
variable {P : Program} {w : World} {K : PySem.W.Frag} {mg : Str → Option Value} {base : Heap}
/-- one of a list of texts, of lists -/
theorem at_str (l : List Str) {k : Nat} (h : k < l.length) : atI (l.map Dt.str) (k : Nat) = some (.str (l.getD k "")) := atI_get Dt.str l (k : Nat) "" (by omega) (by omega)
theorem at_wd (l : List (List Str)) {k : Nat} (h : k < l.length) : atI (l.map wD) (k : Nat) = some (wD (l.getD k [])) := atI_get wD l (k : Nat) [] (by omega) (by omega)
abbrev nD (n : Nat) : Dt := .int (n : Nat)
theorem at_nat (l : List Nat) {k : Nat} (h : k < l.length) : atI (l.map nD) (k : Nat) = some (.int (l.getD k 0 : Nat)) := atI_get nD l (k : Nat) 0 (by omega) (by omega)
def pDeep7 (_ : Hp) (ds : List Dt) (r : Res) : Prop := ∃ k : Nat, ds = [.int (k : Nat)] ∧ k ≤ 100 ∧ r = .ok (nots k).dt
theorem rng_at7 {n i : Nat} {d : Dt} (h : ((List.range n).map fun i => Dt.int ((0 : Int) + (i : Nat)))[i]? = some d) : d = .int (i : Nat) ∧ i < n := by
  rw [List.getElem?_map] at h
  obtain ⟨i', hx, rfl⟩ := Option.map_eq_some_iff.mp h
  obtain ⟨h1, h2⟩ := List.getElem?_eq_some_iff.mp hx
  rw [List.getElem_range] at h2
  subst h2
  rw [List.length_range] at h1
  exact ⟨by rw [Int.zero_add], h1⟩
theorem ok_deep7 (T : Txt K mg) : Cal P w K mg base CX0 1 "_law_deep" (spR pDeep7) := by
  obtain ⟨f, fd, a⟩ := T.d_law_deep
  refine a.cal (fn_D a.fn sc_law_deep (fun F ds r h => ?_) (fun F ds C h => ?_) (fun X A B Bf hr F ds d h => ?_))
  · obtain ⟨_, rfl, _⟩ := h; rfl
  · obtain ⟨_, _, _, h⟩ := h; cases h
  obtain ⟨k, rfl, hk, hd⟩ := h
  cases hd
  refine s_asg 1 ((d_tup (a_one d_str)).to (d' := (nots 0).dt) (by rw [nots, Part.dt])) ?_
  refine s_for (I := fun i δ => ∃ o, δ = (⟨[some (.int (k : Nat)), some (nots i).dt, o], []⟩ : Sl)) ((i_rng1 (j := (k : Nat)) T.b_range (d_v 0 rfl) (by omega) (by omega)).to (by rw [Int.toNat_natCast])) ⟨_, rfl⟩ ?_ ?_
  · rintro i d δi ⟨o, rfl⟩ hi
    obtain ⟨rfl, hi'⟩ := rng_at7 hi
    refine ⟨_, g_n 2, ?_⟩
    refine s_asg 1 ((d_tup (a_cons d_str (a_one (d_v 1 rfl)))).to (d' := (nots (i + 1)).dt) (by rw [nots, Part.dt])) (s_nil ?_)
    exact ⟨_, Wk.refl _, _, rfl⟩
  · rintro δn ⟨o, rfl⟩
    rw [List.length_map, List.length_range]
    exact s_ret (d_v 1 rfl) rfl
def pOdd7 (_ : Hp) (ds : List Dt) (r : Res) : Prop := ∃ (j k : Nat) (s : Str), ds = [.int (j : Nat), .int (k : Nat), .str s] ∧ j < 5 ∧ k < 4 ∧ s ∈ strangers7 ∧ r = .ok (.str (rowT (odd7R j k s)))
theorem abcd_at {k : Nat} (h : k < 4) : atI (("abcd" : Str)).cps.toList ((k : Nat) : Int) = some (97 + k) := by
  refine atI_nat ?_
  have : ∀ k < 4, (("abcd" : Str)).cps.toList[k]? = some (97 + k) := by decide +kernel
  exact this k h
theorem strangers_len : ∀ s ∈ strangers7, s.length ≤ 20 := by decide +kernel
theorem odd_len : (("rule " : Str)).length = 5 ∧ (("or 2 not any rule " : Str)).length = 18 ∧ (("or 0" : Str)).length = 4 ∧ (("span 98 97" : Str)).length = 10 ∧ (("any" : Str)).length = 3 ∧ ((" = " : Str)).length = 3 ∧ (("A" : Str)).length = 1 ∧ (("abcd" : Str)).length = 4 := by decide +kernel
theorem add_len (a b : Str) : (a ++ b).length = a.length + b.length := by
  show (a.cps ++ b.cps).size = _
  rw [Array.size_append]
  rfl
theorem ok_odd7 (T : Txt K mg) : Cal P w K mg base CX0 1 "_law_odd_row" (spR pOdd7) := by
  obtain ⟨f, fd, a⟩ := T.d_law_odd_row
  refine a.cal (fn_D a.fn sc_law_odd_row (fun F ds r h => ?_) (fun F ds C h => ?_) (fun X A B Bf hr F ds d h => ?_))
  · obtain ⟨_, _, _, rfl, _⟩ := h; rfl
  · obtain ⟨_, _, _, _, _, _, _, h⟩ := h; cases h
  obtain ⟨j, k, s, rfl, hj, hk, hs, hd⟩ := h
  cases hd
  obtain ⟨l1, l2, l3, l4, l5, l6, l7, l8⟩ := odd_len
  have ls := strangers_len s hs
  have ll : (letter k).length = 1 := rfl
  have rl : ∀ c : Nat, (repT "A" c).length = c := fun c => by
    show ((List.replicate c (("A" : Str)).cps).foldl (· ++ ·) #[]).size = c
    rw [foldl_size]
    have : (("A" : Str)).cps.size = 1 := l7
    rw [this]
    simp
  refine s_asg 3 (d_ixS (c := 97 + k) d_str (d_v 1 rfl) (by rw [l8]; decide) (abcd_at hk)) ?_
  refine s_asg 4 (d := wD (oddRows k s)) (d_lst (a_cons (d_adds d_str (d_v 2 rfl) (Nat.le_trans (by omega : _ ≤ 100) (by decide))) (a_cons (d_adds d_str (d_v 3 rfl) ?_) (a_cons d_str (a_cons d_str (a_one d_str))))) (by show 5 ≤ 1000; decide)) ?_
  · show _ + (letter k).length ≤ sizeLine
    rw [l2, ll]
    decide
  have hm : ((oddRows k s).getD j "").length ≤ 40 := by
    match j, hj with
    | 0, _ => show ("rule " ++ s).length ≤ 40; rw [add_len]; omega
    | 1, _ => show ("or 2 not any rule " ++ letter k).length ≤ 40; rw [add_len]; omega
    | 2, _ => show (("or 0" : Str)).length ≤ 40; omega
    | 3, _ => show (("span 98 97" : Str)).length ≤ 40; omega
    | 4, _ => show (("any" : Str)).length ≤ 40; omega
  have hc : (((if decide (((j : Nat) : Int) = 4) = true then 1 else 0) : Int)) = (((if j = 4 then 1 else 0) : Nat) : Int) := by
    by_cases h : j = 4
    · rw [if_pos h, if_pos (decide_eq_true (by omega))]; rfl
    · rw [if_neg h, if_neg (by rw [decide_eq_false (by omega)]; exact Bool.false_ne_true)]; rfl
  have hc1 : (if j = 4 then 1 else 0 : Nat) ≤ 1 := by split <;> omega
  refine s_ret (d := .str (rowT (odd7R j k s))) (EvD.to (d_adds (d_adds (d_adds (d_v 3 rfl) (d_repT (k := if j = 4 then 1 else 0) d_str (EvD.to (d_intB T.b_int (d_eq (d_v 0 rfl) d_int)) (congrArg Dt.int hc)) (by omega) (by omega) (by omega)) ?_) d_str ?_) (d_ixL (d_v 4 rfl) (d_v 0 rfl) (at_str (oddRows k s) hj)) ?_) (congrArg Dt.str (row_odd hk hj s))) rfl
  · rw [rl]
    show (letter k).length + _ ≤ sizeLine
    rw [ll]
    exact Nat.le_trans (by omega : _ ≤ 100) (by decide)
  · show (letter k ++ repT "A" _).length + _ ≤ sizeLine
    rw [add_len, rl, ll, l6]
    exact Nat.le_trans (by omega : _ ≤ 100) (by decide)
  · show (letter k ++ repT "A" _ ++ _).length + _ ≤ sizeLine
    rw [add_len, add_len, rl, ll, l6]
    exact Nat.le_trans (by omega : _ ≤ 100) (by decide)
end
end Law

set_option Elab.async false
set_option linter.all false
set_option maxRecDepth 100000
set_option maxHeartbeats 1000000
/-! law_k07: the law's writing, walked: the signs' row, broken or signed. -/
namespace Law
open PySem PySem.Spec PyProof.Rows L2 G
section
variable {P : Program} {w : World} {K : PySem.W.Frag} {mg : Str → Option Value} {base : Heap}
def loN (a b : Nat) : Nat := if b < a then b else a
def hiN (a b : Nat) : Nat := if b < a then a else b
def pSignsRow (_ : Hp) (ds : List Dt) (r : Res) : Prop := ∃ a b c : Nat, ds = [.str (sg a), .str (sg b), .str (sg c)] ∧ a < 128 ∧ b < 128 ∧ c < 128 ∧ r = .ok (.lst [wD (wordsZ c (loN a b) (hiN a b)), (partZ c (loN a b) (hiN a b)).dt])
theorem ok_signs_row (T : Txt K mg) : Cal P w K mg base CX0 1 "_law_signs_row" (spR pSignsRow) := by
  obtain ⟨f, fd, a⟩ := T.d_law_signs_row
  refine a.cal (fn_D a.fn sc_law_signs_row (fun F ds r h => ?_) (fun F ds C h => ?_) (fun X A B Bf hr F ds d h => ?_))
  · obtain ⟨_, _, _, rfl, _⟩ := h; rfl
  · obtain ⟨_, _, _, _, _, _, _, h⟩ := h; cases h
  obtain ⟨a, b, c, rfl, ha, hb, hc, hd⟩ := h
  cases hd
  refine s_par 3 4 (a_cons (d_v 0 rfl) (a_one (d_v 1 rfl))) ?_
  have rest : ∀ lo hi : Nat, lo < 128 → hi < 128 → SD X F ((defBody s_law_signs_row).drop 2) ⟨[some (.str (sg a)), some (.str (sg b)), some (.str (sg c)), some (.str (sg lo)), some (.str (sg hi)), none, none], []⟩ (EndD (.ok (.lst [wD (wordsZ c lo hi), (partZ c lo hi).dt]))) := by
    intro lo hi hlo hhi
    refine s_asg 5 (d := wD ["zz", "=", "row", "3", "sign", numS c, "many", "span", numS lo, numS hi]) (d_lst (a_cons d_str (a_cons d_str (a_cons d_str (a_cons d_str (a_cons d_str (a_cons (d_strI T.b_str (d_ord T.b_ord (d_v 2 rfl)) (log_small c hc)) (a_cons d_str (a_cons d_str (a_cons (d_strI T.b_str (d_ord T.b_ord (d_v 3 rfl)) (log_small lo hlo)) (a_one (d_strI T.b_str (d_ord T.b_ord (d_v 4 rfl)) (log_small hi hhi)))))))))))) (by show 10 ≤ 1000; decide)) ?_
    refine s_asg 5 (d := wD (wordsZ c lo hi)) (EvD.to (d_wcat (d_v 5 rfl) (vs := ["or", "2", "not", "any", "row", "0"]) (d_lst (a_cons d_str (a_cons d_str (a_cons d_str (a_cons d_str (a_cons d_str (a_one d_str)))))) (by show 6 ≤ 1000; decide)) (by show 10 + 6 ≤ 1000; decide)) rfl) ?_
    refine s_asg 6 (d := (Part.or [.not .any, .row []]).dt) (EvD.to (d_tup (a_cons d_str (a_one (d_tup (a_cons (d_tup (a_cons d_str (a_one ?_))) (a_one (d_tup (a_cons d_str (a_one (d_tup a_nil))))))))))  (by rw [Part.dt, Part.dts, Part.dts, Part.dts, Part.dt, Part.dt, Part.dt, Part.dts])) ?_
    · exact d_tup (a_one d_str)
    refine s_ret (d := .lst [wD (wordsZ c lo hi), (partZ c lo hi).dt]) (EvD.to (d_lst (a_cons (d_v 5 rfl) (a_one (d_tup (a_cons d_str (a_one (d_tup (a_cons (d_tup (a_cons d_str (a_one (d_v 2 rfl)))) (a_cons (d_tup (a_cons d_str (a_one ?_))) (a_one (d_v 6 rfl))))))))))) (by unfold partZ; rw [Part.dt, Part.dts, Part.dts, Part.dts, Part.dts, Part.dt, Part.dt, Part.dt])) rfl
    exact d_tup (a_cons d_str (a_cons (d_v 3 rfl) (a_one (d_v 4 rfl))))
  refine s_if (t_lt (d_ord T.b_ord (d_v 1 rfl)) (d_ord T.b_ord (d_v 0 rfl))) (fun h => ?_) (fun h => ?_)
  · have h' : b < a := by have := of_decide_eq_true h; omega
    refine s_par 3 4 (a_cons (d_v 1 rfl) (a_one (d_v 0 rfl))) (s_nil ?_)
    have := rest b a hb ha
    unfold loN hiN
    rw [if_pos h', if_pos h']
    exact this
  · have h' : ¬ b < a := by have := of_decide_eq_false h; omega
    refine s_nil ?_
    have := rest a b ha hb
    unfold loN hiN
    rw [if_neg h', if_neg h']
    exact this
def pSigned (_ : Hp) (ds : List Dt) (r : Res) : Prop := ∃ (ws : List Str) (k : Nat) (c : Int), ds = [wD ws, .int (k : Nat), .int c] ∧ ws.length = 16 ∧ (∀ x ∈ ws, x.length ≤ 100) ∧ 29 < k ∧ k < 35 ∧ r = .ok (wD (signedL ws k c))
theorem mod_nat {c : Int} {m : Nat} (hm : 0 < m) : c % (m : Nat) = (((c % (m : Nat)).toNat : Nat) : Int) ∧ (c % (m : Nat)).toNat < m := by
  have h1 := Int.emod_nonneg c (show ((m : Nat) : Int) ≠ 0 by omega)
  have h2 := Int.emod_lt_of_pos c (show (0 : Int) < ((m : Nat) : Int) by omega)
  exact ⟨(Int.toNat_of_nonneg h1).symm, by omega⟩
theorem ok_signed (T : Txt K mg) : Cal P w K mg base CX0 1 "_law_signed" (spR pSigned) := by
  obtain ⟨f, fd, a⟩ := T.d_law_signed
  refine a.cal (fn_D a.fn sc_law_signed (fun F ds r h => ?_) (fun F ds C h => ?_) (fun X A B Bf hr F ds d h => ?_))
  · obtain ⟨_, _, _, rfl, _⟩ := h; rfl
  · obtain ⟨_, _, _, _, _, _, _, _, h⟩ := h; cases h
  obtain ⟨ws, k, c, rfl, hl, hx, hk1, hk2, hd⟩ := h
  cases hd
  have m4 := mod_nat (c := c) (m := 4) (by decide)
  have m15 := mod_nat (c := c) (m := 15) (by decide)
  refine s_when (t_lt (d_v 1 rfl) d_int) (fun h => ?_) (fun h => ?_)
  · have h' : k < 33 := by have := of_decide_eq_true h; omega
    have e : signedL ws k c = rep ws (([5, 8, 9, 3] : List Nat).getD (c % 4).toNat 0) ((["+97", "9_7", "0x9"] : List Str).getD (k % 3) "") := if_pos h'
    have hs : ([5, 8, 9, 3] : List Nat).getD (c % 4).toNat 0 ≤ 9 := by
      have hm : ([5, 8, 9, 3] : List Nat).getD (c % 4).toNat 0 ∈ ([5, 8, 9, 3] : List Nat) := by
        rw [List.getD_eq_getElem?_getD, List.getElem?_eq_getElem (show (c % 4).toNat < 4 from m4.2)]
        exact List.getElem_mem _
      revert hm
      generalize ([5, 8, 9, 3] : List Nat).getD (c % 4).toNat 0 = z
      intro hm
      simp at hm
      omega
    rw [e]
    generalize hz : ([5, 8, 9, 3] : List Nat).getD (c % 4).toNat 0 = z at *
    refine s_asg 3 (d := .int (z : Nat)) (d_ixL (d_lst (a_cons d_int (a_cons d_int (a_cons d_int (a_one d_int))))) (d_mod (d_v 2 rfl) d_int (by decide)) ?_) ?_
    · have := at_nat [5, 8, 9, 3] (k := (c % 4).toNat) m4.2
      rw [hz] at this
      rw [show (c % 4 : Int) = ((c % 4).toNat : Nat) from m4.1]
      exact this
    have hk3 : ((k : Nat) : Int) % 3 = ((k % 3 : Nat) : Int) := by omega
    refine s_ret (d := wD (rep ws z ((["+97", "9_7", "0x9"] : List Str).getD (k % 3) ""))) (d_wcat (d_wcat (d_tk (d_v 0 rfl) (d_v 3 rfl)) (d_w1 (d_ixL (d_lst (a_cons d_str (a_cons d_str (a_one d_str)))) ((d_mod (d_v 1 rfl) d_int (by decide)).to (congrArg Dt.int hk3)) (at_str ["+97", "9_7", "0x9"] (Nat.mod_lt _ (by decide))))) ?_) (d_dp (d_v 0 rfl) (d_nx (d_v 3 rfl))) ?_) rfl
    · rw [List.length_take, hl]; simp only [List.length_cons, List.length_nil]; omega
    · rw [List.length_append, List.length_take, List.length_drop, hl]; simp only [List.length_cons, List.length_nil]; omega
  · have h' : ¬ k < 33 := by have := of_decide_eq_false h; omega
    have e : signedL ws k c = _ := if_neg h'
    rw [e]
    have hlt := m15.2
    have hz := m15.1
    generalize hz2 : (c % 15).toNat = z at *
    have hlz : z < 15 := hlt
    refine s_asg 3 (d := .int (z : Nat)) ((d_mod (d_v 2 rfl) ((d_sub (d_lenL T.b_len (d_v 0 rfl)) d_int).to (d' := .int 15) (by rw [List.length_map, hl]; rfl)) (by decide)).to (congrArg Dt.int hz)) ?_
    have g1 : (ws.getD z "").length ≤ 100 := by
      rw [List.getD_eq_getElem?_getD, List.getElem?_eq_getElem (by omega)]
      exact hx _ (List.getElem_mem _)
    have g2 : (ws.getD (z + 1) "").length ≤ 100 := by
      rw [List.getD_eq_getElem?_getD, List.getElem?_eq_getElem (by omega)]
      exact hx _ (List.getElem_mem _)
    have lt : (("\t" : Str)).length = 1 := by decide +kernel
    refine s_ret (d_wcat (d_wcat (d_tk (d_v 0 rfl) (d_v 3 rfl)) (d_w1 (d_adds (d_adds (d_ixL (d_v 0 rfl) (d_v 3 rfl) (at_str ws (by omega))) d_str ?_) (d_ixL (d_v 0 rfl) (d_nx (d_v 3 rfl)) (at_str ws (by omega))) ?_)) ?_) (d_dp (n := z + 2) (d_v 0 rfl) ((d_add (d_v 3 rfl) d_int).to (congrArg Dt.int (by omega)))) ?_) rfl
    · rw [lt]; exact Nat.le_trans (by omega : _ ≤ 200) (by decide)
    · rw [add_len, lt]; exact Nat.le_trans (by omega : _ ≤ 300) (by decide)
    · rw [List.length_take, hl]; simp only [List.length_cons, List.length_nil]; omega
    · rw [List.length_append, List.length_take, List.length_drop, hl]; simp only [List.length_cons, List.length_nil]; omega
def pBroken (_ : Hp) (ds : List Dt) (r : Res) : Prop := ∃ (ws : List Str) (k : Nat) (c : Int), ds = [wD ws, .int (k : Nat), .int c] ∧ ws.length = 16 ∧ k < 22 ∧ r = .ok (wD (brokenL ws k c))
theorem ok_broken (T : Txt K mg) : Cal P w K mg base CX0 1 "_law_broken" (spR pBroken) := by
  obtain ⟨f, fd, a⟩ := T.d_law_broken
  refine a.cal (fn_D a.fn sc_law_broken (fun F ds r h => ?_) (fun F ds C h => ?_) (fun X A B Bf hr F ds d h => ?_))
  · obtain ⟨_, _, _, rfl, _⟩ := h; rfl
  · obtain ⟨_, _, _, _, _, _, h⟩ := h; cases h
  obtain ⟨ws, k, c, rfl, hl, hk, hd⟩ := h
  cases hd
  have m3 := mod_nat (c := c) (m := 3) (by decide)
  have m6 := mod_nat (c := c) (m := 6) (by decide)
  have m16 := mod_nat (c := c) (m := 16) (by decide)
  have hne : ws ≠ [] := fun e => by rw [e] at hl; cases hl
  have ht : ∀ n, (ws.take n).length ≤ 16 := fun n => by rw [List.length_take, hl]; omega
  have hdr : ∀ n, (ws.drop n).length ≤ 16 := fun n => by rw [List.length_drop, hl]; omega
  have z1 : ∀ n (x : Str), (ws.take n).length + [x].length ≤ 1000 := fun n x => by have := ht n; rw [List.length_singleton]; omega
  have z2 : ∀ n (x : Str) p, (ws.take n ++ [x]).length + (ws.drop p).length ≤ 1000 := fun n x p => by have := ht n; have := hdr p; rw [List.length_append, List.length_singleton]; omega
  have hsp6 : (c % 6).toNat < 6 := m6.2
  have hpl3 : (c % 3).toNat < 3 := m3.2
  refine s_asg 3 (d := .int ((c % 16).toNat : Nat)) ((d_mod (d_v 2 rfl) ((d_lenL T.b_len (d_v 0 rfl)).to (d' := .int 16) (by rw [List.length_map, hl]; rfl)) (by decide)).to (congrArg Dt.int m16.1)) ?_
  refine s_asg 4 (d := .lst ([3, 5, 8, 9, 11, 15].map nD)) (d_lst (a_cons d_int (a_cons d_int (a_cons d_int (a_cons d_int (a_cons d_int (a_one d_int)))))) (by show 6 ≤ 1000; decide)) ?_
  refine s_asg 5 (d := .int (spots.getD (c % 6).toNat 0 : Nat)) (d_ixL (d_v 4 rfl) ((d_mod (d_v 2 rfl) d_int (by decide)).to (congrArg Dt.int m6.1)) (at_nat [3, 5, 8, 9, 11, 15] hsp6)) ?_
  generalize hat : (c % 16).toNat = at_
  generalize hspot : spots.getD (c % 6).toNat 0 = sp
  refine s_when (t_lt (d_v 1 rfl) d_int) (fun h => ?_) (fun h => ?_)
  · have h' : k < 8 := by have := of_decide_eq_true h; omega
    refine s_asg 6 (d := .str (bads.getD k "")) (d_ixL (d_lst (a_cons d_str (a_cons d_str (a_cons d_str (a_cons d_str (a_cons d_str (a_cons d_str (a_cons d_str (a_one d_str))))))) ) (by show 8 ≤ 1000; decide)) (d_v 1 rfl) (at_str bads h')) ?_
    refine s_asg 7 (d := .int (places.getD (c % 3).toNat 0 : Nat)) (d_ixL (d_lst (a_cons d_int (a_cons d_int (a_one d_int)))) ((d_mod (d_v 2 rfl) d_int (by decide)).to (congrArg Dt.int m3.1)) (at_nat places hpl3)) ?_
    generalize hpl : places.getD (c % 3).toNat 0 = pl
    have e : brokenL ws k c = if k < 2 ∨ k = 7 then rep ws pl (bads.getD k "") else rep ws sp (bads.getD k "") := by
      unfold brokenL
      rw [if_pos h', hpl, hspot]
    refine s_when (k := decide (k < 2 ∨ k = 7)) (t_w ((w_or (t_lt (d_v 1 rfl) d_int) (fun _ => w_or1 (t_eq (d_v 1 rfl) d_int))).to ?_)) (fun h2 => ?_) (fun h2 => ?_)
    · show (decide (((k : Nat) : Int) < 2) || decide (((k : Nat) : Int) = 7)) = _
      rw [← Bool.decide_or, decide_eq_decide]
      omega
    · rw [e, if_pos (of_decide_eq_true h2)]
      exact s_ret (d_wcat (d_wcat (d_tk (d_v 0 rfl) (d_v 7 rfl)) (d_w1 (d_v 6 rfl)) (z1 _ _)) (d_dp (d_v 0 rfl) (d_nx (d_v 7 rfl))) (z2 _ _ _)) rfl
    · rw [e, if_neg (of_decide_eq_false h2)]
      exact s_ret (d_wcat (d_wcat (d_tk (d_v 0 rfl) (d_v 5 rfl)) (d_w1 (d_v 6 rfl)) (z1 _ _)) (d_dp (d_v 0 rfl) (d_nx (d_v 5 rfl))) (z2 _ _ _)) rfl
  have h8 : ¬ k < 8 := by have := of_decide_eq_false h; omega
  refine s_when (t_lt (d_v 1 rfl) d_int) (fun h => ?_) (fun h => ?_)
  · have h' : k < 12 := by have := of_decide_eq_true h; omega
    have e : brokenL ws k c = ([ws.dropLast, ws.take at_ ++ [("" : Str)] ++ ws.drop at_, ws ++ [("any" : Str)], ws ++ [("" : Str)]] : List (List Str)).getD (k - 8) [] := by
      unfold brokenL
      rw [if_neg h8, if_pos h', hat]
    rw [e]
    refine s_ret (d_ixL (d_lst (ds := ([ws.dropLast, ws.take at_ ++ [("" : Str)] ++ ws.drop at_, ws ++ [("any" : Str)], ws ++ [("" : Str)]] : List (List Str)).map wD) (a_cons (d_dl (d_v 0 rfl) (d_neg d_int) hne) (a_cons (d_wcat (d_wcat (d_tk (d_v 0 rfl) (d_v 3 rfl)) (d_w1 d_str) (z1 _ _)) (d_dp (d_v 0 rfl) (d_v 3 rfl)) (z2 _ _ _)) (a_cons (d_wcat (d_v 0 rfl) (d_w1 d_str) (by rw [hl, List.length_singleton]; decide)) (a_one (d_wcat (d_v 0 rfl) (d_w1 d_str) (by rw [hl, List.length_singleton]; decide)))))) (by show 4 ≤ 1000; decide)) ((d_sub (d_v 1 rfl) d_int).to (d' := .int ((k - 8 : Nat) : Int)) (congrArg Dt.int (by omega))) (at_wd _ (by show k - 8 < 4; omega))) rfl
  have h12 : ¬ k < 12 := by have := of_decide_eq_false h; omega
  refine s_when (t_lt (d_v 1 rfl) d_int) (fun h => ?_) (fun h => ?_)
  · have h' : k < 16 := by have := of_decide_eq_true h; omega
    have e : brokenL ws k c = ws.take 3 ++ [(["2", "4", "3 ", "03"] : List Str).getD (k - 12) ""] ++ ws.drop 4 := by
      unfold brokenL
      rw [if_neg h8, if_neg h12, if_pos h']
    rw [e]
    exact s_ret (d_wcat (d_wcat (d_tk (n := 3) (d_v 0 rfl) d_int) (d_w1 (d_ixL (d_lst (a_cons d_str (a_cons d_str (a_cons d_str (a_one d_str)))) (by show 4 ≤ 1000; decide)) ((d_sub (d_v 1 rfl) d_int).to (d' := .int ((k - 12 : Nat) : Int)) (congrArg Dt.int (by omega))) (at_str ["2", "4", "3 ", "03"] (by show k - 12 < 4; omega)))) (z1 _ _)) (d_dp (n := 4) (d_v 0 rfl) d_int) (z2 _ _ _)) rfl
  have h16 : ¬ k < 16 := by have := of_decide_eq_false h; omega
  refine s_when (t_lt (d_v 1 rfl) d_int) (fun h => ?_) (fun h => ?_)
  · have h' : k < 19 := by have := of_decide_eq_true h; omega
    have e : brokenL ws k c = ([ws.take 1 ++ ws.drop 2, ws.take 1 ++ [(":" : Str)] ++ ws.drop 2, [("" : Str)] ++ ws.drop 1] : List (List Str)).getD (k - 16) [] := by
      unfold brokenL
      rw [if_neg h8, if_neg h12, if_neg h16, if_pos h']
    rw [e]
    refine s_ret (d_ixL (d_lst (ds := ([ws.take 1 ++ ws.drop 2, ws.take 1 ++ [(":" : Str)] ++ ws.drop 2, [("" : Str)] ++ ws.drop 1] : List (List Str)).map wD) (a_cons (d_wcat (d_tk (n := 1) (d_v 0 rfl) d_int) (d_dp (n := 2) (d_v 0 rfl) d_int) (by have := ht 1; have := hdr 2; omega)) (a_cons (d_wcat (d_wcat (d_tk (n := 1) (d_v 0 rfl) d_int) (d_w1 d_str) (z1 _ _)) (d_dp (n := 2) (d_v 0 rfl) d_int) (z2 _ _ _)) (a_one (d_wcat (d_w1 d_str) (d_dp (n := 1) (d_v 0 rfl) d_int) (by have := hdr 1; rw [List.length_singleton]; omega))))) (by show 3 ≤ 1000; decide)) ((d_sub (d_v 1 rfl) d_int).to (d' := .int ((k - 16 : Nat) : Int)) (congrArg Dt.int (by omega))) (at_wd _ (by show k - 16 < 3; omega))) rfl
  have h19 : ¬ k < 19 := by have := of_decide_eq_false h; omega
  have e : brokenL ws k c = ([ws.take 4 ++ [("Sign" : Str)] ++ ws.drop 5, ["zz", "="], ["zz", "=", "rule"]] : List (List Str)).getD (k % 3) [] := by
    unfold brokenL
    rw [if_neg h8, if_neg h12, if_neg h16, if_neg h19]
  rw [e]
  have hk3 : ((k : Nat) : Int) % 3 = ((k % 3 : Nat) : Int) := by omega
  refine s_ret (d_ixL (d_lst (ds := ([ws.take 4 ++ [("Sign" : Str)] ++ ws.drop 5, ["zz", "="], ["zz", "=", "rule"]] : List (List Str)).map wD) (a_cons (d_wcat (d_wcat (d_tk (n := 4) (d_v 0 rfl) d_int) (d_w1 d_str) (z1 _ _)) (d_dp (n := 5) (d_v 0 rfl) d_int) (z2 _ _ _)) (a_cons (d_lst (a_cons d_str (a_one d_str)) (by show 2 ≤ 1000; decide)) (a_one (d_lst (a_cons d_str (a_cons d_str (a_one d_str))) (by show 3 ≤ 1000; decide))))) (by show 3 ≤ 1000; decide)) ((d_mod (d_v 1 rfl) d_int (by decide)).to (congrArg Dt.int hk3)) (at_wd _ (Nat.mod_lt _ (by decide)))) rfl
end
end Law

set_option Elab.async false
set_option linter.all false
set_option maxRecDepth 100000
set_option maxHeartbeats 1000000
/-! law_k07: more rows. -/
namespace Law
open PySem PySem.Spec PyProof.Rows L2 G
section
variable {P : Program} {w : World} {K : PySem.W.Frag} {mg : Str → Option Value} {base : Heap}
theorem eq_nk (k : Nat) (j : Nat) : sameD (.int (k : Nat)) (.int (j : Nat)) = decide (k = j) := by
  show decide (((k : Nat) : Int) = (j : Nat)) = _
  rw [decide_eq_decide]
  omega
def pMoreRows (_ : Hp) (ds : List Dt) (r : Res) : Prop := ∃ (rows : List Str) (k : Nat) (c : Int), ds = [wD rows, .int (k : Nat), .int c] ∧ rows.length ≤ 10 ∧ r = .ok (wD (more7 rows k c))
theorem let_at7 {k : Nat} (h : k < 26) : atI lettersS.cps.toList ((k : Nat) : Int) = some (97 + k) := by
  refine atI_nat ?_
  show ((List.range 26).map (97 + ·))[k]? = _
  rw [List.getElem?_map, List.getElem?_range h]
  rfl
theorem y_eq7 : ("y" : Str) = mk [121] ∧ ((" = any" : Str)).length = 6 ∧ (("deep = " : Str)).length = 7 ∧ (("not " : Str)).length = 4 ∧ (("any" : Str)).length = 3 := by decide +kernel
theorem put_eq (rows : List Str) (x : Str) (c : Int) : rows.take (c % ((rows.length : Nat) + 1 : Int)).toNat ++ [x] ++ rows.drop (c % ((rows.length : Nat) + 1 : Int)).toNat = G.putIn rows x c := by
  unfold G.putIn
  rw [List.append_assoc]
  rfl
theorem ok_more_rows (T : Txt K mg) : Cal P w K mg base CX0 1 "_law_more_rows" (spR pMoreRows) := by
  obtain ⟨f, fd, a⟩ := T.d_law_more_rows
  refine a.cal (fn_D a.fn sc_law_more_rows (fun F ds r h => ?_) (fun F ds C h => ?_) (fun X A B Bf hr F ds d h => ?_))
  · obtain ⟨_, _, _, rfl, _⟩ := h; rfl
  · obtain ⟨_, _, _, _, _, h⟩ := h; cases h
  obtain ⟨rows, k, c, rfl, hl, hd⟩ := h
  cases hd
  have g1 := Int.emod_nonneg c (show ((rows.length : Nat) + 1 : Int) ≠ 0 by omega)
  have hn : c % ((rows.length : Nat) + 1 : Int) = (((c % ((rows.length : Nat) + 1 : Int)).toNat : Nat) : Int) := (Int.toNat_of_nonneg g1).symm
  have ht : ∀ n, (rows.take n).length ≤ 10 := fun n => by rw [List.length_take]; omega
  have hdr : ∀ n, (rows.drop n).length ≤ 10 := fun n => by rw [List.length_drop]; omega
  have z1 : ∀ n (x : Str), (rows.take n).length + [x].length ≤ 1000 := fun n x => by have := ht n; rw [List.length_singleton]; omega
  have z2 : ∀ n (x : Str) p, (rows.take n ++ [x]).length + (rows.drop p).length ≤ 1000 := fun n x p => by have := ht n; have := hdr p; rw [List.length_append, List.length_singleton]; omega
  have z0 : ∀ x : Str, rows.length + [x].length ≤ 1000 := fun x => by rw [List.length_singleton]; omega
  obtain ⟨e1, e2, e3, e4, e5⟩ := y_eq7
  refine s_asg 3 (d := .str lettersS) (EvD.to d_str (congrArg Dt.str (by decide +kernel))) ?_
  refine s_asg 4 (d := .int ((c % ((rows.length : Nat) + 1 : Int)).toNat : Nat)) (EvD.to (d_mod (d_v 2 rfl) ((d_add (d_lenL T.b_len (d_v 0 rfl)) d_int).to (d' := .int ((rows.length : Nat) + 1 : Int)) (by rw [List.length_map])) (by omega)) (congrArg Dt.int hn)) ?_
  have put := fun x => put_eq rows x c
  generalize hat : (c % ((rows.length : Nat) + 1 : Int)).toNat = at_ at *
  have ins : ∀ {x : Str} {e : Expr} {p1 p2 p3 p4 p5 q1 q2 q3 q4 : Pos} {δ : Sl}, δ.s[0]? = some (some (wD rows)) → δ.s[4]? = some (some (.int (at_ : Nat))) → True := fun _ _ => trivial
  -- 22
  refine s_when (k := decide (k = 22)) ((t_eq (d_v 1 rfl) d_int).to (eq_nk _ _)) (fun h => ?_) (fun h => ?_)
  · have e : more7 rows k c = rows ++ [("" : Str)] := if_pos (of_decide_eq_true h)
    rw [e]
    exact s_ret (d_wcat (d_v 0 rfl) (d_w1 d_str) (z0 _)) rfl
  have h22 := of_decide_eq_false h
  refine s_when (k := decide (k = 23)) ((t_eq (d_v 1 rfl) d_int).to (eq_nk _ _)) (fun h => ?_) (fun h => ?_)
  · have e : more7 rows k c = [("" : Str)] := by unfold more7; rw [if_neg h22, if_pos (of_decide_eq_true h)]
    rw [e]
    exact s_ret (d_w1 d_str) rfl
  have h23 := of_decide_eq_false h
  refine s_when (k := decide (k = 24)) ((t_eq (d_v 1 rfl) d_int).to (eq_nk _ _)) (fun h => ?_) (fun h => ?_)
  · have e : more7 rows k c = rows.take at_ ++ [("" : Str)] ++ rows.drop at_ := by rw [put]; unfold more7; rw [if_neg h22, if_neg h23, if_pos (of_decide_eq_true h)]
    rw [e]
    exact s_ret (d_wcat (d_wcat (d_tk (d_v 0 rfl) (d_v 4 rfl)) (d_w1 d_str) (z1 _ _)) (d_dp (d_v 0 rfl) (d_v 4 rfl)) (z2 _ _ _)) rfl
  have h24 := of_decide_eq_false h
  refine s_when (k := decide (k = 25 ∨ k = 26)) (t_w ((w_or (t_eq (d_v 1 rfl) d_int) (fun _ => w_or1 (t_eq (d_v 1 rfl) d_int))).to ?_)) (fun h => ?_) (fun h => ?_)
  · show (decide (((k : Nat) : Int) = 25) || decide (((k : Nat) : Int) = 26)) = _
    rw [← Bool.decide_or, decide_eq_decide]
    omega
  · have e : more7 rows k c = rows.take at_ ++ [rowT (deep7 (dn7 c))] ++ rows.drop at_ := by rw [put]; unfold more7; rw [if_neg h22, if_neg h23, if_neg h24, if_pos (of_decide_eq_true h)]
    rw [e]
    have hdn : (12 : Int) + c / 8 % 30 = ((dn7 c : Nat) : Int) := by
      unfold dn7
      have := Int.emod_nonneg (c / 8) (show (30 : Int) ≠ 0 by decide)
      omega
    have hdl := dn7_le c
    have lr : (repT "not " (dn7 c)).length = dn7 c * 4 := by
      show ((List.replicate (dn7 c) (("not " : Str)).cps).foldl (· ++ ·) #[]).size = _
      rw [foldl_size]
      have : (("not " : Str)).cps.size = 4 := e4
      rw [this]
      simp
    refine s_ret (d_wcat (d_wcat (d_tk (d_v 0 rfl) (d_v 4 rfl)) (d_w1 (EvD.to (d_adds (d_adds d_str (d_repT (k := dn7 c) d_str ((d_add d_int (d_mod (d_fdiv (d_v 2 rfl) d_int cdv) d_int (by decide))).to (congrArg Dt.int hdn)) (by omega) (by omega) (by omega)) ?_) d_str ?_) (congrArg Dt.str (row_deep _)))) (z1 _ _)) (d_dp (d_v 0 rfl) (d_v 4 rfl)) (z2 _ _ _)) rfl
    · rw [lr, e3]; exact Nat.le_trans (by omega : _ ≤ 300) (by decide)
    · rw [add_len, lr, e3, e5]; exact Nat.le_trans (by omega : _ ≤ 300) (by decide)
  have h25 := of_decide_eq_false h
  refine s_when (k := decide (k = 27)) ((t_eq (d_v 1 rfl) d_int).to (eq_nk _ _)) (fun h => ?_) (fun h => ?_)
  · have e : more7 rows k c = rows ++ (ysR (41 - rows.length)).map rowT := by unfold more7; rw [if_neg h22, if_neg h23, if_neg h24, if_neg h25, if_pos (of_decide_eq_true h)]
    rw [e]
    have i1 : ∀ k : Nat, ((0 : Int) + (k : Nat)) = (k : Nat) := fun k => Int.zero_add _
    refine s_ret (d_wcat (d_v 0 rfl) (EvD.to (d_lc0 (l := List.range (41 - rows.length)) (g0 := fun k => .int ((0 : Int) + (k : Nat))) 5 (fun k => .str (rowT (yname k, .any))) ((i_rng1 (j := ((41 - rows.length : Nat) : Int)) T.b_range ((d_sub d_int (d_lenL T.b_len (d_v 0 rfl))).to (by rw [List.length_map]; congr 1; omega)) (by omega) (by omega)).to (by rw [Int.toNat_natCast])) rfl (fun k hk X' B' => ?_) (by rw [List.length_range]; exact Nat.lt_of_le_of_lt (by omega : _ ≤ 41) (by decide))) ?_) ?_) rfl
    · have hk' := List.mem_range.mp hk
      have hm : ((k : Nat) : Int) % 26 = ((k % 26 : Nat) : Int) := by omega
      have hd : ((k : Nat) : Int) / 26 = ((k / 26 : Nat) : Int) := by omega
      refine (d_adds (d_adds (d_adds d_str (d_ixS (c := 97 + k % 26) (d_v 3 rfl) ((d_mod (d_v 5 rfl) d_int (by decide)).to (d' := .int ((k % 26 : Nat) : Int)) (by rw [i1, hm])) (by decide +kernel) (let_at7 (Nat.mod_lt _ (by decide)))) ?_) (d_ixS (c := 97 + k / 26) (d_v 3 rfl) ((d_fdiv (d_v 5 rfl) d_int cdv).to (d' := .int ((k / 26 : Nat) : Int)) (by rw [i1, hd])) (by decide +kernel) (let_at7 (by omega))) ?_) d_str ?_).to ?_
      · rw [e1]
        show 1 + 1 ≤ sizeLine
        decide
      · rw [e1]
        show (mk [121] ++ mk [97 + k % 26]).length + 1 ≤ sizeLine
        rw [mk_add]
        show 2 + 1 ≤ sizeLine
        decide
      · rw [e1, e2]
        show (mk [121] ++ mk [97 + k % 26] ++ mk [97 + k / 26]).length + 6 ≤ sizeLine
        rw [mk_add, mk_add]
        show 3 + 6 ≤ sizeLine
        decide
      · rw [e1]
        show Dt.str ((mk [121] ++ mk [97 + k % 26]) ++ mk [97 + k / 26] ++ " = any") = _
        rw [mk_add, mk_add, row_any]
        rfl
    · unfold ysR
      rw [List.map_map]
      exact congrArg Dt.lst (by rw [List.map_map]; rfl)
    · unfold ysR
      rw [List.length_map, List.length_map, List.length_range]
      omega
  have h27 := of_decide_eq_false h
  refine s_when (k := decide (k = 29)) ((t_eq (d_v 1 rfl) d_int).to (eq_nk _ _)) (fun h => ?_) (fun h => ?_)
  · have e : more7 rows k c = rows ++ [rowT (deep7 11)] := by unfold more7; rw [if_neg h22, if_neg h23, if_neg h24, if_neg h25, if_neg h27, if_pos (of_decide_eq_true h)]
    rw [e]
    have lr : (repT "not " 11).length = 44 := by decide +kernel
    refine s_ret (d_wcat (d_v 0 rfl) (d_w1 (EvD.to (d_adds (d_adds d_str (d_repT (k := 11) d_str d_int (by decide) (by omega) (by omega)) ?_) d_str ?_) (congrArg Dt.str (row_deep _)))) (z0 _)) rfl
    · rw [lr, e3]; decide
    · rw [add_len, lr, e3, e5]; decide
  have h29 := of_decide_eq_false h
  have e : more7 rows k c = rows := by unfold more7; rw [if_neg h22, if_neg h23, if_neg h24, if_neg h25, if_neg h27, if_neg h29]
  rw [e]
  exact s_ret (d_v 0 rfl) rfl
end
end Law

set_option Elab.async false
set_option linter.all false
set_option maxRecDepth 100000
set_option maxHeartbeats 1000000
/-! law_k07: what is refused. -/
namespace Law
open PySem PySem.Spec PyProof.Rows L2 G
section
variable {P : Program} {w : World} {K : PySem.W.Frag} {mg : Str → Option Value} {base : Heap}
abbrev toldD (rules : Rules) : Dt := .lst (rules.map fun r => .tup [.str r.1, r.2.dt])
def pRefusal7 (K : PySem.W.Frag) (_ : Hp) (ds : List Dt) (m : Mm) (R : Rem → Prop) : Prop := ∃ (t : Str) (rows : List Str), ds = [.str t] ∧ Txt.split t "\n" = rows ∧ t.length + 2 ≤ sizeLine ∧ rows.length ≤ 100000 ∧ (∀ r ∈ rows, r.length ≤ 1000000 ∧ Short (Txt.split r " ")) ∧
  (∀ rs, rowsP rows = some rs → ∀ x ∈ rs, okD (.str x.1) = true ∧ okD x.2.dt = true ∧ x.2.size ≤ 100000) ∧
  R = fun z => (rowsP rows = none ∧ z = .ok (.lst [.int 1, .bl true]) m) ∨ ∃ rs, rowsP rows = some rs ∧
    ((¬ (1 ≤ (rs.map toX).length ∧ (rs.map toX).length ≤ 40 ∧ ∃ rules, Valid (rs.map toX) rules) ∧ z = .ok (.lst [.int 2, .bl true]) m) ∨
    ∃ rules, Valid (rs.map toX) rules ∧ 1 ≤ (rs.map toX).length ∧ (rs.map toX).length ≤ 40 ∧ ((¬ Known rules ∧ z = .ok (.lst [.int 3, .bl true]) m) ∨
      (Known rules ∧ ∃ E, IsEmp rules E ∧ ((Rings rules E ∧ z = .ok (.lst [.int 4, .bl true]) m) ∨ (¬ Rings rules E ∧ z = .ok (.lst [.int 0, toldD rules]) m)))))
theorem rules_uniq7 {rules : Rules} (hn : (rules.map (·.1)).Nodup) {x r : Str × Part} (hx : x ∈ rules) (hr : r ∈ rules) (h : x.1 = r.1) : x = r := by
  have h1 := valD_pk hn hx
  have h2 := valD_pk hn hr
  rw [h, h2] at h1
  have h3 : r.2 = x.2 := dt_inj (Option.some.inj h1)
  exact Prod.ext h h3.symm
theorem ok_refusal7 (T : Txt K mg) : Cal P w K mg base (L2N.CX P w) 20 "_law_refusal" (spM (pRefusal7 K)) := by
  obtain ⟨f, fd, a⟩ := T.d_law_refusal
  have hA := ok_alone (P := P) (w := w) (base := base) T
  have hG := ok_grammar_of (P := P) (w := w) (base := base) T
  refine a.cal (fn_M a.fn sc_law_refusal (fun F ds m R h => ?_) (fun X A B Bf hr F ds m R h => ?_))
  · obtain ⟨_, _, rfl, _⟩ := h; rfl
  obtain ⟨t, rows, rfl, hsp, htl, hrl, hrows, hok, rfl⟩ := h
  refine s_try (.named (i := 2) (names_of T.e_NoNotes.g) (by rw [B.hN]; rfl) (kind_of (by decide +kernel)) (.named (i := 2) (names_of T.e_NoGrammar.g) (by rw [B.hN]; rfl) (kind_of (by decide +kernel)) (.named (i := 2) (names_of T.e_NoRule.g) (by rw [B.hN]; rfl) (kind_of (by decide +kernel)) (.named (i := 2) (names_of T.e_Circling.g) (by rw [B.hN]; rfl) (kind_of (by decide +kernel)) .nil)))) fun X' B' Bf' => ?_
  refine s_asgM 1 (m_call hG (hr.mono (by decide)) (a_one (d_v 0 rfl)) (fun F1 hF => ⟨t, rows, rfl, hsp, htl, hrl, hrows, hok, rfl⟩)) (fun d m' h => ?_) (fun C m' h => ?_)
  · rcases h with ⟨_, h⟩ | ⟨rs, hrs, g, ⟨m2, hI, h⟩ | ⟨C, m2, hI, h⟩⟩
    · cases h
    · cases h
      rcases hI with ⟨_, h⟩ | ⟨rules, hv, h1, h2, ⟨_, h⟩ | ⟨hk, E, hE, ⟨_, h⟩ | ⟨hn, qp, qe, h⟩⟩⟩
      · cases h
      · cases h
      · cases h
      · cases h
        have hGr : GrAt K ((qe, .dK (ek E)) :: (qp, .dK (pk rules)) :: (g, .ins (gG K) [("parts", .ref qp), ("empty", .ref qe)]) :: m) g rules E := ⟨2, 1, 0, qp, qe, rfl, rfl, rfl, by decide⟩
        refine s_ret (d := .lst [.int 0, toldD rules]) (d_lst (a_cons d_int (a_one (EvD.to (d_lc0 (l := rules) (g0 := fun r => .str r.1) 3 (fun r => .tup [.str r.1, r.2.dt]) (i_lst (EvD.to (EmD.newL (ds := (rules.map (·.1)).map .str) (m_meth0 2 (ok_names T) T.c_Grammar (hr.mono (by decide)) (d_v 1 rfl) rfl rfl (fun F1 hF => ⟨g, rules, rfl, hGr.pa, rfl⟩))) (by rw [List.map_map]; rfl))) rfl (fun r hrm X2 B2 => ?_) ?_) rfl)))) ⟨m, (SubP.refl m).drop.drop.drop, .inr ⟨rs, hrs, .inr ⟨rules, hv, h1, h2, .inr ⟨hk, E, hE, .inr ⟨hn, rfl⟩⟩⟩⟩⟩
        · refine d_tup (a_cons (d_v 3 rfl) (a_one (EmD.ev (d := r.2.dt) (m_meth 2 (ok_part T) T.c_Grammar (hr.mono (by decide)) (d_v 1 rfl) rfl rfl (a_one (d_v 3 rfl)) (fun F1 hF => ⟨g, rules, r.1, rfl, hGr.pa, hv.nd, rfl⟩)) (fun z hz => ?_))))
          rcases hz with ⟨x, hx, hxs, rfl⟩ | ⟨hno, _⟩
          · rw [rules_uniq7 hv.nd hx hrm hxs]
          · exact absurd (List.mem_map.mpr ⟨r, hrm, rfl⟩) hno
        · rw [← hv.len]
          exact Nat.lt_of_le_of_lt h2 (by decide)
    · cases h
  · rcases h with ⟨hno, h⟩ | ⟨rs, hrs, g, ⟨m2, hI, h⟩ | ⟨C, m2, hI, h⟩⟩
    · cases h
      exact caughtB hA (hr.mono (by decide)) (i := 5) rfl T.x_NoNotes_NoNotes (fun _ _ _ => d_int) ⟨m, .refl m, .inl ⟨hno, rfl⟩⟩
    · cases h
    · cases h
      rcases hI with ⟨h1, h⟩ | ⟨rules, hv, h1, h2, ⟨hk, h⟩ | ⟨hk, E, hE, ⟨hR, h⟩ | ⟨hn, qp, qe, h⟩⟩⟩
      · cases h
        exact caughtN T.x_NoGrammar_NoNotes (caughtB hA (hr.mono (by decide)) (i := 0) rfl T.x_NoGrammar_NoGrammar (fun _ _ _ => d_int) ⟨m, .refl m, .inr ⟨rs, hrs, .inl ⟨h1, rfl⟩⟩⟩)
      · cases h
        exact caughtN T.x_NoRule_NoNotes (caughtN T.x_NoRule_NoGrammar (caughtB hA (hr.mono (by decide)) (i := 1) rfl T.x_NoRule_NoRule (fun _ _ _ => d_int) ⟨m, .refl m, .inr ⟨rs, hrs, .inr ⟨rules, hv, h1, h2, .inl ⟨hk, rfl⟩⟩⟩⟩))
      · cases h
        exact caughtN T.x_Circling_NoNotes (caughtN T.x_Circling_NoGrammar (caughtN T.x_Circling_NoRule (caughtB hA (hr.mono (by decide)) (i := 2) rfl T.x_Circling_Circling (fun _ _ _ => d_int) ⟨m, .refl m, .inr ⟨rs, hrs, .inr ⟨rules, hv, h1, h2, .inr ⟨hk, E, hE, .inl ⟨hR, rfl⟩⟩⟩⟩⟩)))
      · cases h
end
end Law

set_option Elab.async false
set_option linter.all false
set_option maxRecDepth 100000
set_option maxHeartbeats 1000000
/-! law_k07. -/
namespace G
open PySem PySem.Spec PyProof.Rows L2
theorem ixN_nat {n i : Nat} (h : i < n) : ixN n (i : Nat) = some i := by
  unfold ixN
  simp
  omega
theorem m_cat {X : Cx} {F : Hp} {δ : Sl} {a b : Expr} {pos : Pos} {ds es : List Dt} (ha : EvD X F a δ (.lst ds)) (hb : EvD X F b δ (.lst es)) (hz : ds.length + es.length ≤ sizeLine) : EmD X F (.BinOp a .Add b pos) δ (NewL δ.m (ds ++ es)) := fun F1 H σ Q W s t c k =>
  we (pe_op op_cat pe pe) (ha F1 H σ _ s c fun v F2 H2 e2 r2 => hb F2 H2 σ _ (s.trans e2.ff) (c.ext e2) fun u F3 H3 e3 r3 => by
    have r2' := r2.mono e3.ff
    cases r2' with
    | lst hx rax =>
      cases r3 with
      | lst hy ray => exact ⟨_, _, _, _, rfl, rfl, e3.sub _ _ hx, e3.sub _ _ hy, by rw [rax.length, ray.length]; exact hz, fun l hl => k _ ⟨l, e3.st.ads_ne hl, rfl⟩ _ F3 _ ((e2.trans e3).trans (Ext.mkM e3.st hl (.lst (rax.append ray)))) (.ref l)⟩)
theorem d_tkD {X : Cx} {F : Hp} {δ : Sl} {e i : Expr} {p2 pos : Pos} {xs : List Dt} {n : Nat} (h : EvD X F e δ (.lst xs)) (hi : EvD X F i δ (.int (n : Nat))) : EvD X F (.Subscript e (.Slice none (some i) none p2) pos) δ (.lst (xs.take n)) :=
  (d_sliceL h .none (.some hi)).to (congrArg Dt.lst (cut_tk _ _))
theorem d_dpD {X : Cx} {F : Hp} {δ : Sl} {e i : Expr} {p2 pos : Pos} {xs : List Dt} {n : Nat} (h : EvD X F e δ (.lst xs)) (hi : EvD X F i δ (.int (n : Nat))) : EvD X F (.Subscript e (.Slice (some i) none none p2) pos) δ (.lst (xs.drop n)) :=
  (d_sliceL h (.some hi) .none).to (congrArg Dt.lst (cut_dp _ _))
open TL (tl joinL)
theorem joinL_ge (S : List Nat) : ∀ l : List (List Nat), (l.map List.length).sum + l.length * S.length ≤ (joinL S l).length + S.length
  | [] => by simp
  | [p] => by simp [joinL]
  | p :: q :: r => by
    have := joinL_ge S (q :: r)
    rw [joinL, List.length_append, List.length_append]
    simp only [List.map_cons, List.sum_cons, List.length_cons] at this ⊢
    rw [Nat.succ_mul]
    omega
theorem join_ge (y : Str) (l : List Str) : (l.map fun t => t.length).sum + l.length * y.length ≤ (Txt.join y l).length + y.length := by
  rw [TL.join_eq]
  have h := TL.tl_join y l
  have h2 := congrArg List.length h
  have h3 := joinL_ge (tl y) (l.map tl)
  rw [List.map_map, List.length_map] at h3
  have e1 : ∀ t : Str, (tl t).length = t.length := fun t => Array.length_toList
  have e2 : (l.map (List.length ∘ tl)) = l.map fun t => t.length := List.map_congr_left fun t _ => e1 t
  rw [e2, e1] at h3
  rw [e1] at h2
  omega
/-- name = [.. for ..], on one line: a list that may change -/
theorem s_setLcC {X : Cx} {F : Hp} {δ : Sl} {elt iter : Expr} {rest : List Stmt} {O : Out → Prop} {pos spos py px : Pos} {n nm : Str} {scope : Scope} {L : List (Addr × HO)} {Γ : Gm} {N : List Str} {sc : Scope} {α : Type} {l : List α} {g0 : α → Dt} [B : Bd X Γ N sc] [Bf X] (j i : Nat) (f : α → Dt) (hI : IterD X F L (.Name n px) iter δ (l.map g0)) (h0 : δ.s[i]? = some none) (he : ∀ d ∈ l, InB Γ N sc scope fun X' => EvD X' F elt (δ.set i (some (g0 d))) (f d)) (hz : l.length < sizeLine)
    (hr : ∀ q, q ∉ δ.m.ads → SD X F rest ((δ.to ((q, .lst (l.map f)) :: δ.m)).set j (some (.ref q))) O) (hL : ∀ p ∈ L, (p.1, Md.lck p.2) ∈ δ.m := by exact fun _ h => nomatch h)
    (ok : blkC N sc scope [(n, i)] = true := by decide +kernel) (hi : N[i]? = some n := by rfl) (hx : (relS scope sc).names.lookup n = some .local := by decide +kernel)
    (hs : ∀ x, foldedSetIterable iter X.env x = pure x := by intro _; rfl)
    (hy : N[j]? = some nm := by rfl) (hyl : sc.names.lookup nm = some .local := by decide +kernel) (hk : sc.kind = .function := by rfl) (hl : (py.line == pos.line) = true := by rfl) (ha : (scope.names.any fun (n, k) => n == nm && (k == .local || k == .cell)) = false := by decide +kernel) :
    SD X F (.Assign [.Name nm py] (.ListComp elt [⟨.Name n px, iter, [], 0⟩] scope pos) spos :: rest) δ O := fun F1 H σ D W s t cc p =>
  wss (pss_cons (ps_setLc (i := j) (own := [(n, i)]) (g := gName i) (tt := tYes) (te := TWE Γ N sc scope elt) B.calm (by rw [B.hN]; exact B.nd) (by rw [B.hN]; exact hy) (by rw [B.hsc]; exact hyl) (sw_true (by rw [B.hsc]; exact hk) (by rw [B.hsc]; exact hyl) hl ha) pi (by rw [B.hN, B.hsc]; exact blkOk_by ok) (fun s H C cl fp => pg_name (X := X.blk s H scope (compEnvC scope cl C X.env) fp) (by show X.N.Nodup; rw [B.hN]; exact B.nd) (by show X.N[i]? = some n; rw [B.hN]; exact hi) (.inl (by rw [B.blk.hsc]; exact hx)) (.inr (by rw [B.blk.hsc]; exact hx))) (fun _ _ _ _ _ => pts_nil) (fun s H C cl fp => ⟨fun pins s' σ H' Q I h => (h _ B.blk).go pins s' I⟩) hs) pss)
    (lc_main (scope := scope) (WI X (.Name n px) iter) (fun F1 H σ R s c k => hI F1 H σ R s c k) h0 hz (fun _ => true) f hL (fun d _ F1 H σ Q s c k => k F1 H (.refl c.st)) (fun d hd _ => he d hd) F1 H σ (fun v H' => WSs X rest D (σ.set j (some v)) H') s cc (by
      rw [List.filter_eq_self.mpr (fun _ _ => rfl)]
      exact fun D' F' H' hn e => hr D' hn F' H' _ D W (s.trans e.ff) t ((cc.to e).set j (.ref D')) fun o ho => (p o ho).ext e))
variable {ns : List Int}
theorem wz7_fits : ((wz7 ns).map fun t => t.length).sum + (wz7 ns).length * ((" " : Str)).length ≤ 20300 := by
  obtain ⟨ws, h⟩ := wz7_rowK (ns := ns)
  have h1 := h.small
  have h2 := join_ge " " (wz7 ns)
  rw [sp_len.1] at h2 ⊢
  omega
def prog7 (ns : List Int) : Rules := G.putIn (base7 ns) (zz7 ns) (cell ns 6) ++ end7 ns
theorem prog7_fin (h : ¬ isOdd ns) : prog7 ns = fin7 ns := by
  have h5 : ¬ (1 < many7 ns ∧ odd7 ns = 5) := fun ⟨h1, h2⟩ => h ⟨by omega, by omega⟩
  unfold prog7 fin7 mid7 lets7
  rw [if_neg h5]
  unfold odds7
  rw [if_neg h]
end G
namespace Law
open PySem PySem.Spec PyProof.Rows L2 G
section
variable {P : Program} {w : World} {K : PySem.W.Frag} {mg : Str → Option Value} {base : Heap}
variable {ns : List Int}
abbrev pr7 (r : Str × Part) : Dt := .tup [.str r.1, r.2.dt]
theorem put_told (R : Rules) (r : Str × Part) (c : Int) : G.putIn (R.map pr7) (pr7 r) c = (G.putIn R r c).map pr7 := (putIn_map pr7 R r c).symm
theorem okE_told (h : ¬ isOdd ns) : okE (toldD (fin7 ns)) = true := by
  refine (eqOk_lst (n := 40) (okXs (n := 40) fun d hd => ?_).2).okE (by decide)
  obtain ⟨r, hr, rfl⟩ := List.mem_map.mp hd
  have hx := good_okX hr h
  exact (okX_tup (n := 30) (all_cons (hx.1.mono (by decide)) (all_cons hx.2 all_nil)) (by simp)).mono (by decide)
theorem rows7_short {r : Str} (hr : r ∈ all7 ns) : r.length ≤ 1000000 ∧ Short (Txt.split r " ") := by
  obtain ⟨ws, h⟩ := all7_rowK r hr
  refine ⟨Nat.le_trans h.small (by decide), ?_⟩
  rw [h.split]
  exact ⟨Nat.le_trans h.len (by decide), fun w hw => Nat.le_trans (h.ok w hw).1 (by decide)⟩
theorem due7_le : due7 ns ≤ 4 := by
  unfold due7 odue7
  split
  · decide
  · split
    · decide
    · split
      · rename_i h
        have := h.2
        have : odd7 ns = 0 ∨ odd7 ns = 1 ∨ odd7 ns = 2 ∨ odd7 ns = 3 ∨ odd7 ns = 4 ∨ odd7 ns = 5 := by omega
        rcases this with e | e | e | e | e | e <;> rw [e] <;> decide
      · decide
def lawLevel : Nat := 22
theorem ok_law {f : Addr} {fd : FuncData} (T : Txt K mg) (Fn : Fun K "law" "law" s_law f fd) : FnOk P w K mg base CX0 lawLevel f fd ["_law_script"] (spR (pLawT K)) := by
  have hC := ok_cell (P := P) (w := w) (base := base) T
  have hS := ok_sign (P := P) (w := w) (base := base) T
  have hSR := ok_signs_row (P := P) (w := w) (base := base) T
  have hO := ok_odd7 (P := P) (w := w) (base := base) T
  have hB := ok_broken (P := P) (w := w) (base := base) T
  have hG := ok_signed (P := P) (w := w) (base := base) T
  have hM := ok_more_rows (P := P) (w := w) (base := base) T
  have hD := ok_deep7 (P := P) (w := w) (base := base) T
  have hF := ok_refusal7 (P := P) (w := w) (base := base) T
  refine fn_D Fn sc_law (fun F ds r h => ?_) (fun F ds C h => ?_) (fun X A B Bf hr F ds d h => ?_)
  · obtain ⟨_, _, rfl, _⟩ := h; rfl
  · obtain ⟨_, _, _, h, _⟩ := h; cases h
  obtain ⟨l, ns, rfl, hd, hq, _⟩ := h
  cases hd
  have hm5 := many7_lt (ns := ns)
  have hk44 := kind7_lt (ns := ns)
  have cel : ∀ {k : Int} {e1 e2 : Pos} {e3 : Nat} {p1 p2 p3 p4 : Pos}, True := trivial
  -- what is told
  have fin17 : ∀ v1 v2 v6 v9 v10 v11 : Option Dt, ∀ o7 o8 : Option Dt, SD X F ((defBody s_law).drop 17) ⟨[some (.ref l), v1, v2, some (toldD (prog7 ns)), some (wD (all7 ns)), some (.int (due7 ns : Nat)), v6, o7, o8, v9, v10, v11, none], []⟩ (EndD (.ok (.bl true))) := by
    intro v1 v2 v6 v9 v10 v11 o7 o8
    refine s_asgM 12 (R := fun z => ∃ v, z = .ok (.lst [.int (due7 ns : Nat), v]) [] ∧ ((0 < due7 ns ∧ v = .bl true) ∨ (due7 ns = 0 ∧ v = toldD (fin7 ns)))) (EmD.mono (m_call hF (hr.mono (by decide)) (a_one (d_join d_str (d_v 4 rfl) (Nat.le_trans text7_fits (by decide)))) (fun F1 _ => ⟨Txt.join "\n" (all7 ns), all7 ns, rfl, text7_split, Nat.le_trans (Nat.add_le_add_right text7_len 2) (by decide), Nat.le_trans all7_len.2 (by decide), fun r hr => rows7_short hr, fun rs hrs x hx => ?_, rfl⟩)) (fun z h => ?_)) (fun d m' h => ?_) (fun C m' h => ?_)
    · by_cases hb : bad7 ns
      · have e1 : due7 ns = 1 := if_pos hb
        rw [e1]
        rcases h with ⟨_, rfl⟩ | ⟨rs, hrs, _⟩
        · exact ⟨_, rfl, .inl ⟨by decide, rfl⟩⟩
        · rw [all7_bad hb] at hrs; cases hrs
      · rcases h with ⟨hno, _⟩ | ⟨rs, hrs, h⟩
        · rw [all7_rules hb] at hno; cases hno
        rw [all7_rules hb] at hrs
        cases hrs
        rcases out7 hb with ⟨e2, hno⟩ | ⟨⟨hv, hl1, hl2⟩, ho⟩
        · rw [e2]
          rcases h with ⟨_, rfl⟩ | ⟨rules, hv, h1, h2, _⟩
          · exact ⟨_, rfl, .inl ⟨by decide, rfl⟩⟩
          · exact absurd ⟨h1, h2, rules, hv⟩ hno
        · rcases h with ⟨hno, _⟩ | ⟨rules, hv', _, _, h⟩
          · exact absurd ⟨hl1, hl2, _, hv⟩ hno
          cases hv.uniq hv'
          rcases ho with ⟨e3, hk⟩ | ⟨hk, ho⟩
          · rw [e3]
            rcases h with ⟨_, rfl⟩ | ⟨hk', _⟩
            · exact ⟨_, rfl, .inl ⟨by decide, rfl⟩⟩
            · exact absurd hk' hk
          · rcases h with ⟨hk', _⟩ | ⟨_, E, hE, h⟩
            · exact absurd hk hk'
            rcases ho with ⟨e4, hR⟩ | ⟨e0, hR⟩
            · rw [e4]
              rcases h with ⟨_, rfl⟩ | ⟨h5, _⟩
              · exact ⟨_, rfl, .inl ⟨by decide, rfl⟩⟩
              · exact absurd (hR E) h5
            · rcases h with ⟨h5, _⟩ | ⟨_, rfl⟩
              · exact absurd h5 (hR E)
              · obtain ⟨_, h28, _⟩ := due_zero e0
                rw [all7R_fin hb h28, e0]
                exact ⟨_, rfl, .inr ⟨rfl, rfl⟩⟩
    · obtain ⟨v, h, hv⟩ := h
      cases h
      refine s_no (t_w ((w_or (t_ne (d_ixL (d_v 12 rfl) d_int at0) (d_v 5 rfl)) (q := decide (0 < due7 ns) && !(decide (0 < due7 ns))) (fun _ => w_or1 (t_w (w_and ((t_gt (d_v 5 rfl) d_int).to (k' := decide (0 < due7 ns)) (by rw [decide_eq_decide]; omega)) (fun h => w_and1 (t_not ?_)))))).to (k' := false) ?_)) ?_
      · have h' : 0 < due7 ns := of_decide_eq_true h
        rcases hv with ⟨_, rfl⟩ | ⟨h0, _⟩
        · exact t_val ((d_ixL (d_v 12 rfl) d_int at1).to (d' := .bl (decide (0 < due7 ns))) (by rw [decide_eq_true h']))
        · omega
      · simp [sameD]
      · rcases hv with ⟨h0, rfl⟩ | ⟨h0, rfl⟩
        · exact s_ret (d := .bl true) ((d_orB (q := true) ((d_gt (d_v 5 rfl) d_int).to (d' := .bl true) (by rw [decide_eq_true (by omega)])) (fun h => nomatch h)).to rfl) rfl
        · have ok1 := okE_told (ns := ns) (due_zero h0).2.2
          rw [prog7_fin (due_zero h0).2.2]
          exact s_ret (d := .bl true) ((d_orB (q := true) ((d_gt (d_v 5 rfl) d_int).to (d' := .bl false) (by rw [decide_eq_false (by omega)])) (fun _ => d_one ((d_eqD (hr.mono (by decide) : Room 1 _) (d_ixL (d_v 12 rfl) d_int at1) (d_v 3 rfl) ok1 ok1).to (by rw [eqv_self ok1])))).to rfl) rfl
    · obtain ⟨v, h, hv⟩ := h
      cases h
    · have hb : ¬ bad7 ns := fun hb => by rw [all7_bad hb] at hrs; cases hrs
      rw [all7_rules hb] at hrs
      cases hrs
      have := all7R_wr x hx
      exact ⟨this.okn, this.okp, Nat.le_trans this.size (by decide)⟩
  have kb : ∀ j : Nat, sameD (.int (kind7 ns : Nat)) (.int (j : Nat)) = decide (kind7 ns = j) := eq_nk (kind7 ns)
  -- what is due
  have fin16 : ∀ v1 v2 v6 v9 v10 : Option Dt, ∀ o7 o8 : Option Dt, SD X F ((defBody s_law).drop 16) ⟨[some (.ref l), v1, v2, some (toldD (prog7 ns)), some (wD (all7 ns)), some (.int (odue7 ns : Nat)), v6, o7, o8, v9, v10, some (.int (kind7 ns : Nat)), none], []⟩ (EndD (.ok (.bl true))) := by
    intro v1 v2 v6 v9 v10 o7 o8
    refine s_if (k := decide (bad7 ns)) (t_w ((w_or ((t_lt (d_v 11 rfl) d_int).to (k' := decide (kind7 ns < 25)) (by rw [decide_eq_decide]; omega)) (q := decide (29 < kind7 ns ∧ kind7 ns < 35)) (fun _ => w_or1 (t_w ((w_and ((t_lt d_int (d_v 11 rfl)).to (k' := decide (29 < kind7 ns)) (by rw [decide_eq_decide]; omega)) (q := decide (kind7 ns < 35)) (fun _ => w_and1 ((t_lt (d_v 11 rfl) d_int).to (by rw [decide_eq_decide]; omega)))).to (Bool.decide_and _ _).symm)))).to (Bool.decide_or _ _).symm)) (fun h => ?_) (fun h => ?_)
    · have e : due7 ns = 1 := if_pos (of_decide_eq_true h)
      have := fin17 v1 v2 v6 v9 v10 (some (.int (kind7 ns : Nat))) o7 o8
      rw [e] at this
      exact s_asg 5 d_int (s_nil this)
    · have hb := of_decide_eq_false h
      refine s_if ((t_lt (d_v 11 rfl) d_int).to (k' := decide (kind7 ns < 28)) (by rw [decide_eq_decide]; omega)) (fun h => ?_) (fun h => ?_)
      · have e : due7 ns = 2 := by unfold due7; rw [if_neg hb, if_pos (of_decide_eq_true h)]
        have := fin17 v1 v2 v6 v9 v10 (some (.int (kind7 ns : Nat))) o7 o8
        rw [e] at this
        exact s_asg 5 d_int (s_nil (s_nil this))
      · have e : due7 ns = odue7 ns := by unfold due7; rw [if_neg hb, if_neg (of_decide_eq_false h)]
        have := fin17 v1 v2 v6 v9 v10 (some (.int (kind7 ns : Nat))) o7 o8
        rw [e] at this
        exact s_nil (s_nil this)
  have n6 := mod_nat (c := cell ns 6) (m := many7 ns + 1) (by omega)
  have n6a : cell ns 6 % ((many7 ns : Nat) + 1 : Int) = (((cell ns 6 % ((many7 ns : Nat) + 1 : Int)).toNat : Nat) : Int) := n6.1
  generalize hat : (cell ns 6 % ((many7 ns : Nat) + 1 : Int)).toNat = at_ at *
  have putB : (base7 ns).take at_ ++ [zz7 ns] ++ (base7 ns).drop at_ = G.putIn (base7 ns) (zz7 ns) (cell ns 6) := by
    unfold G.putIn
    rw [base7_len, hat, List.append_assoc]
    rfl
  have putR : ((lets7 ns).map rowT).take at_ ++ [Txt.join " " (wz7 ns)] ++ ((lets7 ns).map rowT).drop at_ = rows7 ns := by
    unfold rows7 G.putIn
    rw [List.length_map, lets7_len, hat, List.append_assoc]
    rfl
  let made : Dt := .lst [wD (W7 ns), (zz7 ns).2.dt]
  have bD : (((base7 ns).map pr7).take at_ ++ [pr7 (zz7 ns)]) ++ ((base7 ns).map pr7).drop at_ = (G.putIn (base7 ns) (zz7 ns) (cell ns 6)).map pr7 := by
    rw [← putB, List.map_append, List.map_append, List.map_take, List.map_drop]
    rfl
  have bL : ((base7 ns).map pr7).length = many7 ns := by rw [List.length_map, base7_len]
  have sz : ∀ {n : Nat}, n ≤ 1000 → n ≤ sizeLine := fun h => Nat.le_trans h (by decide)
  -- the rules
  have fin13 : ∀ v2 v6 v10 : Option Dt, ∀ o7 o8 : Option Dt, SD X F ((defBody s_law).drop 13) ⟨[some (.ref l), some made, v2, some (toldD (base7 ns)), some (wD (rows7 ns)), some (.int (odue7 ns : Nat)), v6, o7, o8, some (.int (at_ : Nat)), v10, some (.int (kind7 ns : Nat)), none], []⟩ (EndD (.ok (.bl true))) := by
    intro v2 v6 v10 o7 o8
    by_cases h29 : kind7 ns = 29
    · refine s_asgM 3 (m_cat (d_cat (d_tkD (d_v 3 rfl) (d_v 9 rfl)) (d_lst (a_one (d_tup (a_cons d_str (a_one (d_ixL (d_v 1 rfl) d_int at1)))))) (sz ?_)) (d_dpD (d_v 3 rfl) (d_v 9 rfl)) (sz ?_)) (fun d m' h => ?_) (fun C m' h => ?_)
      · rw [List.length_take, bL]; simp only [List.length_cons, List.length_nil]; omega
      · rw [List.length_append, List.length_take, List.length_drop, bL]; simp only [List.length_cons, List.length_nil]; omega
      · obtain ⟨q, hq', h⟩ := h
        cases h
        refine s_asg 4 (d_call hM (hr.mono (by decide)) (a_cons (d_v 4 rfl) (a_cons (d_v 11 rfl) (a_one (d_call hC (hr.mono (by decide)) (a_cons (d_v 0 rfl) (a_one d_int)) (fun F1 h1 => ⟨l, ns, 8, rfl, same_sq h1 hq, by decide, rfl⟩))))) (fun F1 _ => ⟨_, _, _, rfl, by rw [rows7_len]; omega, rfl⟩)) ?_
        refine s_if ((t_eq (d_v 11 rfl) d_int).to (kb 29)) (fun _ => ?_) (fun h => absurd h29 (of_decide_eq_false h))
        refine s_expM (m_append 0 rfl (d_v 3 rfl) (d_tup (a_cons d_str (a_one (d_call hD (hr.mono (by decide)) (a_one d_int) (fun F1 _ => ⟨11, rfl, by decide, rfl⟩))))) ?_) (fun d m' h => ?_) (fun C m' h => nomatch h)
        · rw [List.length_append, List.length_append, List.length_take, List.length_drop, bL]; simp only [List.length_cons, List.length_nil]; exact Nat.lt_of_le_of_lt (by omega : _ ≤ 100) (by decide)
        · cases h
          refine s_nil (s_frzL 0 rfl 3 rfl ?_)
          have e : toldD (prog7 ns) = .lst (((((base7 ns).map pr7).take at_ ++ [pr7 (zz7 ns)]) ++ ((base7 ns).map pr7).drop at_) ++ [.tup [.str "deep", (nots 11).dt]]) := by
            rw [bD]
            unfold prog7 end7
            rw [if_pos h29]
            show Dt.lst (List.map pr7 _) = _
            rw [List.map_append]
            rfl
          have := fin16 (some made) v2 v6 (some (.int (at_ : Nat))) v10 o7 o8
          rw [e] at this
          exact this
      · obtain ⟨_, _, h⟩ := h; cases h
    · have e0 : toldD (prog7 ns) = .lst ((((base7 ns).map pr7).take at_ ++ [pr7 (zz7 ns)]) ++ ((base7 ns).map pr7).drop at_) := by
        rw [bD]
        unfold prog7 end7
        rw [if_neg h29, List.append_nil]
      refine s_asg 3 (d := toldD (prog7 ns)) (EvD.to (d_cat (d_cat (d_tkD (d_v 3 rfl) (d_v 9 rfl)) (d_lst (a_one (d_tup (a_cons d_str (a_one (d_ixL (d_v 1 rfl) d_int at1)))))) (sz ?_)) (d_dpD (d_v 3 rfl) (d_v 9 rfl)) (sz ?_)) e0.symm) ?_
      · rw [List.length_take, bL]; simp only [List.length_cons, List.length_nil]; omega
      · rw [List.length_append, List.length_take, List.length_drop, bL]; simp only [List.length_cons, List.length_nil]; omega
      refine s_asg 4 (d_call hM (hr.mono (by decide)) (a_cons (d_v 4 rfl) (a_cons (d_v 11 rfl) (a_one (d_call hC (hr.mono (by decide)) (a_cons (d_v 0 rfl) (a_one d_int)) (fun F1 h1 => ⟨l, ns, 8, rfl, same_sq h1 hq, by decide, rfl⟩))))) (fun F1 _ => ⟨_, _, _, rfl, by rw [rows7_len]; omega, rfl⟩)) ?_
      refine s_if ((t_eq (d_v 11 rfl) d_int).to (kb 29)) (fun h => absurd (of_decide_eq_true h) h29) (fun h => s_nil ?_)
      exact fin16 (some made) v2 v6 (some (.int (at_ : Nat))) v10 o7 o8
  -- the rows
  have fin12 : ∀ v2 v6 : Option Dt, ∀ o7 o8 : Option Dt, SD X F ((defBody s_law).drop 12) ⟨[some (.ref l), some made, v2, some (toldD (base7 ns)), some (wD ((lets7 ns).map rowT)), some (.int (odue7 ns : Nat)), v6, o7, o8, some (.int (at_ : Nat)), some (wD (wz7 ns)), some (.int (kind7 ns : Nat)), none], []⟩ (EndD (.ok (.bl true))) := by
    intro v2 v6 o7 o8
    refine s_asg 4 (d := wD (rows7 ns)) (EvD.to (d_wcat (d_wcat (d_tk (d_v 4 rfl) (d_v 9 rfl)) (d_w1 (d_join d_str (d_v 10 rfl) (Nat.le_trans wz7_fits (by decide)))) ?_) (d_dp (d_v 4 rfl) (d_v 9 rfl)) ?_) (congrArg wD putR)) ?_
    · rw [List.length_take, List.length_map, lets7_len, List.length_singleton]; omega
    · rw [List.length_append, List.length_take, List.length_drop, List.length_map, lets7_len, List.length_singleton]; omega
    exact fin13 v2 v6 (some (wD (wz7 ns))) o7 o8
  have k44 := mod_nat (c := cell ns 7) (m := 44) (by decide)
  -- from the place on
  have fin8 : ∀ v6 : Option Dt, ∀ o7 o8 : Option Dt, SD X F ((defBody s_law).drop 8) ⟨[some (.ref l), some made, some (.int (many7 ns : Nat)), some (toldD (base7 ns)), some (wD ((lets7 ns).map rowT)), some (.int (odue7 ns : Nat)), v6, o7, o8, none, none, none, none], []⟩ (EndD (.ok (.bl true))) := by
    intro v6 o7 o8
    refine s_asg 9 (d := .int (at_ : Nat)) ((d_mod (d_call hC (hr.mono (by decide)) (a_cons (d_v 0 rfl) (a_one d_int)) (fun F1 h1 => ⟨l, ns, 6, rfl, same_sq h1 hq, by decide, rfl⟩)) (d_add (d_v 2 rfl) d_int) (by omega)).to (congrArg Dt.int n6a)) ?_
    refine s_asg 10 (d := wD (W7 ns)) (d_ixL (d_v 1 rfl) d_int at0) ?_
    refine s_asg 11 (d := .int (kind7 ns : Nat)) ((d_mod (d_call hC (hr.mono (by decide)) (a_cons (d_v 0 rfl) (a_one d_int)) (fun F1 h1 => ⟨l, ns, 7, rfl, same_sq h1 hq, by decide, rfl⟩)) d_int (by decide)).to (congrArg Dt.int k44.1)) ?_
    have fin := fin12 (some (.int (many7 ns : Nat))) v6 o7 o8
    refine s_if ((t_lt (d_v 11 rfl) d_int).to (k' := decide (kind7 ns < 22)) (by rw [decide_eq_decide]; omega)) (fun h => ?_) (fun h => ?_)
    · have h' := of_decide_eq_true h
      have e : wz7 ns = brokenL (W7 ns) (kind7 ns) (cell ns 8) := if_pos h'
      rw [e] at fin
      exact s_asg 10 (d_call hB (hr.mono (by decide)) (a_cons (d_v 10 rfl) (a_cons (d_v 11 rfl) (a_one (d_call hC (hr.mono (by decide)) (a_cons (d_v 0 rfl) (a_one d_int)) (fun F1 h1 => ⟨l, ns, 8, rfl, same_sq h1 hq, by decide, rfl⟩))))) (fun F1 _ => ⟨_, _, _, rfl, rfl, h', rfl⟩)) (s_nil fin)
    · have h' := of_decide_eq_false h
      refine s_if (k := decide (29 < kind7 ns ∧ kind7 ns < 35)) (t_w ((w_and ((t_lt d_int (d_v 11 rfl)).to (k' := decide (29 < kind7 ns)) (by rw [decide_eq_decide]; omega)) (q := decide (kind7 ns < 35)) (fun _ => w_and1 ((t_lt (d_v 11 rfl) d_int).to (by rw [decide_eq_decide]; omega)))).to (Bool.decide_and _ _).symm)) (fun h2 => ?_) (fun h2 => ?_)
      · have h2' := of_decide_eq_true h2
        have e : wz7 ns = signedL (W7 ns) (kind7 ns) (cell ns 8) := by unfold wz7; rw [if_neg h', if_pos h2']
        rw [e] at fin
        exact s_asg 10 (d_call hG (hr.mono (by decide)) (a_cons (d_v 10 rfl) (a_cons (d_v 11 rfl) (a_one (d_call hC (hr.mono (by decide)) (a_cons (d_v 0 rfl) (a_one d_int)) (fun F1 h1 => ⟨l, ns, 8, rfl, same_sq h1 hq, by decide, rfl⟩))))) (fun F1 _ => ⟨_, _, _, rfl, rfl, fun x hx => Nat.le_trans (words_four codes7 x hx) (by decide), h2'.1, h2'.2, rfl⟩)) (s_nil (s_nil fin))
      · have e : wz7 ns = W7 ns := by unfold wz7; rw [if_neg h', if_neg (of_decide_eq_false h2)]
        rw [e] at fin
        exact s_nil (s_nil fin)
  -- the beginning
  have m5 := mod_nat (c := cell ns 4) (m := 5) (by decide)
  have m12 := mod_nat (c := cell ns 5) (m := 12) (by decide)
  have i1 : ∀ k : Nat, ((0 : Int) + (k : Nat)) = (k : Nat) := fun k => Int.zero_add _
  refine s_asg 1 (d := made) (d_call hSR (hr.mono (by decide)) (a_cons (d_call hS (hr.mono (by decide)) (a_one (d_call hC (hr.mono (by decide)) (a_cons (d_v 0 rfl) (a_one d_int)) (fun F1 h1 => ⟨l, ns, 1, rfl, same_sq h1 hq, by decide, rfl⟩))) (fun F1 _ => ⟨_, rfl, rfl⟩)) (a_cons (d_call hS (hr.mono (by decide)) (a_one (d_call hC (hr.mono (by decide)) (a_cons (d_v 0 rfl) (a_one d_int)) (fun F1 h1 => ⟨l, ns, 2, rfl, same_sq h1 hq, by decide, rfl⟩))) (fun F1 _ => ⟨_, rfl, rfl⟩)) (a_one (d_call hS (hr.mono (by decide)) (a_one (d_call hC (hr.mono (by decide)) (a_cons (d_v 0 rfl) (a_one d_int)) (fun F1 h1 => ⟨l, ns, 3, rfl, same_sq h1 hq, by decide, rfl⟩))) (fun F1 _ => ⟨_, rfl, rfl⟩))))) (fun F1 _ => ⟨_, _, _, rfl, codes_lt _ (sgn_mem _), codes_lt _ (sgn_mem _), codes_lt _ (sgn_mem _), rfl⟩)) ?_
  refine s_asg 2 (d := .int (many7 ns : Nat)) ((d_mod (d_call hC (hr.mono (by decide)) (a_cons (d_v 0 rfl) (a_one d_int)) (fun F1 h1 => ⟨l, ns, 4, rfl, same_sq h1 hq, by decide, rfl⟩)) d_int (by decide)).to (congrArg Dt.int m5.1)) ?_
  have ab : (("abcd" : Str)).length ≤ sizeLine := by decide +kernel
  refine s_setLc0 (l := List.range (many7 ns)) (g0 := fun k => .int ((0 : Int) + (k : Nat))) 3 7 (fun k => pr7 (good7 k)) ((i_rng1 (j := (many7 ns : Nat)) T.b_range (d_v 2 rfl) (by omega) (by omega)).to (by rw [Int.toNat_natCast])) rfl (fun k hk X' B' => ?_) (by rw [List.length_range]; exact Nat.lt_of_le_of_lt (by omega : _ ≤ 41) (by decide)) ?_
  · have hk' := List.mem_range.mp hk
    refine EvD.to (d := .tup [.str (letter k), .tup [.str "or", .tup [.tup [.str "rule", .str "zz"], .tup [.str "any"]]]]) (d' := pr7 (good7 k)) (d_tup (a_cons (d_ixS (c := 97 + k) d_str ((d_v 7 rfl).to (d' := .int (k : Nat)) (by rw [i1])) ab (abcd_at (by omega))) (a_one (d_tup (a_cons d_str (a_one ?_)))))) ?_
    · refine d_tup (a_cons (d_tup (a_cons d_str (a_one d_str))) (a_one ?_))
      exact d_tup (a_one d_str)
    · show _ = Dt.tup [.str (letter k), (Part.or [.rule "zz", .any]).dt]
      rw [Part.dt, Part.dts, Part.dts, Part.dts, Part.dt, Part.dt]
  have ebb : (List.range (many7 ns)).map (fun k => pr7 (good7 k)) = (base7 ns).map pr7 := by
    unfold base7
    rw [List.map_map]
    rfl
  rw [ebb]
  have l18 : ((" = or 2 rule zz any" : Str)).length ≤ 40 := by decide +kernel
  refine s_setLcC (l := List.range (many7 ns)) (g0 := fun k => .int ((0 : Int) + (k : Nat))) 4 7 (fun k => .str (rowT (good7 k))) ((i_rng1 (j := (many7 ns : Nat)) T.b_range (d_v 2 rfl) (by omega) (by omega)).to (by rw [Int.toNat_natCast])) rfl (fun k hk X' B' => ?_) (by rw [List.length_range]; exact Nat.lt_of_le_of_lt (by omega : _ ≤ 41) (by decide)) (fun q hq' => ?_)
  · have hk' := List.mem_range.mp hk
    refine EvD.to (d_adds (d_ixS (c := 97 + k) d_str ((d_v 7 rfl).to (d' := .int (k : Nat)) (by rw [i1])) ab (abcd_at (by omega))) d_str ?_) (congrArg Dt.str (row_good k))
    show 1 + _ ≤ sizeLine
    exact Nat.le_trans (by omega : _ ≤ 50) (by decide)
  have eb : (List.range (many7 ns)).map (fun k => Dt.str (rowT (good7 k))) = ((base7 ns).map rowT).map Dt.str := by
    unfold base7
    rw [List.map_map, List.map_map]
    rfl
  rw [eb]
  refine s_asg 5 (d := .int (0 : Nat)) d_int ?_
  refine s_asg 6 (d := .int (odd7 ns : Nat)) ((d_mod (d_call hC (hr.mono (by decide)) (a_cons (d_v 0 rfl) (a_one d_int)) (fun F1 h1 => ⟨l, ns, 5, rfl, same_sq h1 hq, by decide, rfl⟩)) d_int (by decide)).to (congrArg Dt.int m12.1)) ?_
  -- the same row twice
  have fin7' : ∀ o7 o8 : Option Dt, SD X F ((defBody s_law).drop 7) ⟨[some (.ref l), some made, some (.int (many7 ns : Nat)), some (toldD (base7 ns)), some (.ref q), some (.int (odue7 ns : Nat)), some (.int (odd7 ns : Nat)), o7, o8, none, none, none, none], [(q, .lst (((odds7 ns).map rowT).map .str))]⟩ (EndD (.ok (.bl true))) := by
    intro o7 o8
    have fin := fin8 (some (.int (odd7 ns : Nat))) o7 o8
    refine s_if (k := decide (1 < many7 ns ∧ odd7 ns = 5)) (t_w ((w_and ((t_gt (d_v 2 rfl) d_int).to (k' := decide (1 < many7 ns)) (by rw [decide_eq_decide]; omega)) (q := decide (odd7 ns = 5)) (fun _ => w_and1 ((t_eq (d_v 6 rfl) d_int).to (eq_nk _ 5)))).to (Bool.decide_and _ _).symm)) (fun h => ?_) (fun h => ?_)
    · have h' := of_decide_eq_true h
      have hl : (((odds7 ns).map rowT).map Dt.str).length = many7 ns := by rw [List.length_map, List.length_map, odds7_len]
      refine s_putL 0 (i := 0) rfl (d_ixC 0 (d_v 4 rfl) d_int rfl (d := .str (rowT ((odds7 ns).getD 1 (good7 0)))) ?_) (d_v 4 rfl) d_int ?_ (s_nil (s_frzL 0 rfl 4 rfl ?_))
      · refine atI_nat (j := 1) ?_
        rw [List.getElem?_map, List.getElem?_map, List.getD_eq_getElem?_getD, List.getElem?_eq_getElem (by rw [odds7_len]; exact h'.1)]
        rfl
      · rw [hl]
        exact ixN_nat (i := 0) (by omega)
      · have e : ((lets7 ns).map rowT).map Dt.str = (((odds7 ns).map rowT).map Dt.str).set 0 (.str (rowT ((odds7 ns).getD 1 (good7 0)))) := by
          unfold lets7
          rw [if_pos h', List.map_set, List.map_set]
        have fin' := fin
        rw [show wD ((lets7 ns).map rowT) = .lst _ from congrArg Dt.lst e] at fin'
        exact fin'
    · refine s_nil (s_frzL 0 rfl 4 rfl ?_)
      have e : lets7 ns = odds7 ns := if_neg (of_decide_eq_false h)
      rw [e] at fin
      exact fin
  refine s_if (k := decide (isOdd ns)) (t_w ((w_and ((t_gt (d_v 2 rfl) d_int).to (k' := decide (0 < many7 ns)) (by rw [decide_eq_decide]; omega)) (q := decide (odd7 ns < 6)) (fun _ => w_and1 ((t_lt (d_v 6 rfl) d_int).to (by rw [decide_eq_decide]; omega)))).to (Bool.decide_and _ _).symm)) (fun h => ?_) (fun h => ?_)
  · have ho : isOdd ns := of_decide_eq_true h
    have hat7 := at7_lt ho.1
    have m7 := mod_nat (c := cell ns 5 / 12) (m := many7 ns) ho.1
    have s6 := mod_nat (c := cell ns 9) (m := 6) (by decide)
    have h6 := ho.2
    refine s_asg 7 (d := .int (at7 ns : Nat)) ((d_mod (d_fdiv (d_call hC (hr.mono (by decide)) (a_cons (d_v 0 rfl) (a_one d_int)) (fun F1 h1 => ⟨l, ns, 5, rfl, same_sq h1 hq, by decide, rfl⟩)) d_int cdv) (d_v 2 rfl) (by omega)).to (congrArg Dt.int m7.1)) ?_
    refine s_asg 8 (d := .str (str7 ns)) (d_ixL (d_lst (a_cons d_str (a_cons d_str (a_cons d_str (a_cons d_str (a_cons d_str (a_one d_str)))))) (by show 6 ≤ 1000; decide)) ((d_mod (d_call hC (hr.mono (by decide)) (a_cons (d_v 0 rfl) (a_one d_int)) (fun F1 h1 => ⟨l, ns, 9, rfl, same_sq h1 hq, by decide, rfl⟩)) d_int (by decide)).to (congrArg Dt.int s6.1)) (at_str strangers7 s6.2)) ?_
    have emin : (if (4 : Int) < (odd7 ns : Nat) then (4 : Int) else ((odd7 ns : Nat) : Int)) = ((min (odd7 ns) 4 : Nat) : Int) := by
      split <;> omega
    refine s_putL 0 (i := at7 ns) rfl (d_call hO (hr.mono (by decide)) (a_cons ((d_min2 T.b_min (d_v 6 rfl) d_int).to (congrArg Dt.int emin)) (a_cons (d_v 7 rfl) (a_one (d_v 8 rfl)))) (fun F1 _ => ⟨_, _, _, rfl, by omega, by omega, str7_mem, rfl⟩)) (d_v 4 rfl) (d_v 7 rfl) ?_ ?_
    · rw [List.length_map, List.length_map, base7_len]
      exact ixN_nat hat7
    have e : ((odds7 ns).map rowT).map Dt.str = (((base7 ns).map rowT).map Dt.str).set (at7 ns) (.str (rowT (odd7R (min (odd7 ns) 4) (at7 ns) (str7 ns)))) := by
      unfold odds7
      rw [if_pos ho, List.map_set, List.map_set]
    have ed : odue7 ns = dueL.getD (odd7 ns) 0 := if_pos ho
    have fin := fin7' (some (.int (at7 ns : Nat))) (some (.str (str7 ns)))
    rw [e, ed] at fin
    exact s_asg 5 (d := .int (dueL.getD (odd7 ns) 0 : Nat)) (d_ixL (d_lst (a_cons d_int (a_cons d_int (a_cons d_int (a_cons d_int (a_cons d_int (a_one d_int)))))) (by show 6 ≤ 1000; decide)) (d_v 6 rfl) (at_nat dueL h6)) (s_nil fin)
  · have ho : ¬ isOdd ns := of_decide_eq_false h
    have e : odds7 ns = base7 ns := if_neg ho
    have ed : odue7 ns = 0 := if_neg ho
    have fin := fin7' none none
    rw [e, ed] at fin
    exact s_nil fin
end
end Law

set_option Elab.async false
set_option linter.all false
set_option maxRecDepth 100000
set_option maxHeartbeats 4000000
namespace Law
open PySem PySem.Spec PyProof.Rows L2 G
def fn : List He.DefD := [dd "is_sign" s_is_sign, dd "is_name" s_is_name, dd "is_leaf" s_is_leaf, dd "is_part" s_is_part, dd "within" s_within, dd "rules_in" s_rules_in, dd "may_be_empty" s_may_be_empty, dd "empty_rules" s_empty_rules, dd "asked_ahead" s_asked_ahead, dd "comes_back" s_comes_back, dm "Grammar" "__init__" "Grammar.__init__" s_Grammar_init, dm "Grammar" "need" "Grammar.need" s_Grammar_need, dm "Grammar" "names" "Grammar.names" s_Grammar_names, dm "Grammar" "part" "Grammar.part" s_Grammar_part, dd "word_at" s_word_at, dd "number_at" s_number_at, dd "sign_at" s_sign_at, dd "leaf_at" s_leaf_at, dd "opened_at" s_opened_at, dd "closed" s_closed, dd "part_of" s_part_of, dd "grammar_of" s_grammar_of, dd "_law_cell_at" s_law_cell_at, dd "_law_sign_by" s_law_sign_by, dd "_law_marks" s_law_marks, dd "_law_alone" s_law_alone, dd "_law_refusal" s_law_refusal, dd "_law_signs_row" s_law_signs_row, dd "_law_signed" s_law_signed, dd "_law_broken" s_law_broken, dd "_law_deep" s_law_deep, dd "_law_more_rows" s_law_more_rows, dd "_law_odd_row" s_law_odd_row, dd "law" s_law]
def fa : List He.Fa := [.exc "GrammarError", .glo "GrammarError", .exc "NoGrammar", .glo "NoGrammar", .exc "NoRule", .glo "NoRule", .exc "Circling", .glo "Circling", .exc "OutOfPlace", .glo "OutOfPlace", .exc "TooLong", .glo "TooLong", .exc "NoNotes", .glo "NoNotes", .exm "GrammarError" "GrammarError" true, .exm "GrammarError" "NoGrammar" false, .exm "GrammarError" "NoRule" false, .exm "GrammarError" "Circling" false, .exm "GrammarError" "OutOfPlace" false, .exm "GrammarError" "TooLong" false, .exm "GrammarError" "NoNotes" false, .exm "NoGrammar" "GrammarError" true, .exm "NoGrammar" "NoGrammar" true, .exm "NoGrammar" "NoRule" false, .exm "NoGrammar" "Circling" false, .exm "NoGrammar" "OutOfPlace" false, .exm "NoGrammar" "TooLong" false, .exm "NoGrammar" "NoNotes" false, .exm "NoRule" "GrammarError" true, .exm "NoRule" "NoGrammar" false, .exm "NoRule" "NoRule" true, .exm "NoRule" "Circling" false, .exm "NoRule" "OutOfPlace" false, .exm "NoRule" "TooLong" false, .exm "NoRule" "NoNotes" false, .exm "Circling" "GrammarError" true, .exm "Circling" "NoGrammar" false, .exm "Circling" "NoRule" false, .exm "Circling" "Circling" true, .exm "Circling" "OutOfPlace" false, .exm "Circling" "TooLong" false, .exm "Circling" "NoNotes" false, .exm "OutOfPlace" "GrammarError" true, .exm "OutOfPlace" "NoGrammar" false, .exm "OutOfPlace" "NoRule" false, .exm "OutOfPlace" "Circling" false, .exm "OutOfPlace" "OutOfPlace" true, .exm "OutOfPlace" "TooLong" false, .exm "OutOfPlace" "NoNotes" false, .exm "TooLong" "GrammarError" true, .exm "TooLong" "NoGrammar" false, .exm "TooLong" "NoRule" false, .exm "TooLong" "Circling" false, .exm "TooLong" "OutOfPlace" false, .exm "TooLong" "TooLong" true, .exm "TooLong" "NoNotes" false, .exm "NoNotes" "GrammarError" true, .exm "NoNotes" "NoGrammar" false, .exm "NoNotes" "NoRule" false, .exm "NoNotes" "Circling" false, .exm "NoNotes" "OutOfPlace" false, .exm "NoNotes" "TooLong" false, .exm "NoNotes" "NoNotes" true, .glo "Grammar", .cls "Grammar", .mkr "Grammar", .noat "Grammar" "parts", .noat "Grammar" "empty", .str "SIGNS" signsS, .str "LETTERS" lettersS, .int "MOST_LETTERS" 12, .int "MOST_DEEP" 12, .int "MOST_RULES" 40, .free "ValueError", .free "all", .free "any", .free "int", .free "isinstance", .free "len", .free "list", .free "min", .free "ord", .free "range", .free "str", .free "tuple", .glo "is_sign", .glo "is_name", .glo "is_leaf", .glo "is_part", .glo "within", .glo "rules_in", .glo "may_be_empty", .glo "empty_rules", .glo "asked_ahead", .glo "comes_back", .meth "Grammar" "__init__", .meth "Grammar" "need", .meth "Grammar" "names", .meth "Grammar" "part", .glo "word_at", .glo "number_at", .glo "sign_at", .glo "leaf_at", .glo "opened_at", .glo "closed", .glo "part_of", .glo "grammar_of", .glo "_law_cell_at", .glo "_law_sign_by", .glo "_law_marks", .glo "_law_alone", .glo "_law_refusal", .glo "_law_signs_row", .glo "_law_signed", .glo "_law_broken", .glo "_law_deep", .glo "_law_more_rows", .glo "_law_odd_row", .glo "law"]
set_option maxHeartbeats 0 in
theorem txt_of {K : PySem.W.Frag} {h : Heap} {mg : Str → Option Value} (X : K.In h) (G : h.Ns mainGlobals mg) (cx : SaysX fa fn K) : Txt K mg :=
  have c : He.SaysD fa fn K := cx.d
  {
    e_GrammarError := ex_of X G (c.fact 1 rfl) (c.fact 0 rfl)
    e_NoGrammar := ex_of X G (c.fact 3 rfl) (c.fact 2 rfl)
    e_NoRule := ex_of X G (c.fact 5 rfl) (c.fact 4 rfl)
    e_Circling := ex_of X G (c.fact 7 rfl) (c.fact 6 rfl)
    e_OutOfPlace := ex_of X G (c.fact 9 rfl) (c.fact 8 rfl)
    e_TooLong := ex_of X G (c.fact 11 rfl) (c.fact 10 rfl)
    e_NoNotes := ex_of X G (c.fact 13 rfl) (c.fact 12 rfl)
    x_GrammarError_GrammarError := He.exm_ok (c.fact 14 rfl)
    x_GrammarError_NoGrammar := He.exm_ok (c.fact 15 rfl)
    x_GrammarError_NoRule := He.exm_ok (c.fact 16 rfl)
    x_GrammarError_Circling := He.exm_ok (c.fact 17 rfl)
    x_GrammarError_OutOfPlace := He.exm_ok (c.fact 18 rfl)
    x_GrammarError_TooLong := He.exm_ok (c.fact 19 rfl)
    x_GrammarError_NoNotes := He.exm_ok (c.fact 20 rfl)
    x_NoGrammar_GrammarError := He.exm_ok (c.fact 21 rfl)
    x_NoGrammar_NoGrammar := He.exm_ok (c.fact 22 rfl)
    x_NoGrammar_NoRule := He.exm_ok (c.fact 23 rfl)
    x_NoGrammar_Circling := He.exm_ok (c.fact 24 rfl)
    x_NoGrammar_OutOfPlace := He.exm_ok (c.fact 25 rfl)
    x_NoGrammar_TooLong := He.exm_ok (c.fact 26 rfl)
    x_NoGrammar_NoNotes := He.exm_ok (c.fact 27 rfl)
    x_NoRule_GrammarError := He.exm_ok (c.fact 28 rfl)
    x_NoRule_NoGrammar := He.exm_ok (c.fact 29 rfl)
    x_NoRule_NoRule := He.exm_ok (c.fact 30 rfl)
    x_NoRule_Circling := He.exm_ok (c.fact 31 rfl)
    x_NoRule_OutOfPlace := He.exm_ok (c.fact 32 rfl)
    x_NoRule_TooLong := He.exm_ok (c.fact 33 rfl)
    x_NoRule_NoNotes := He.exm_ok (c.fact 34 rfl)
    x_Circling_GrammarError := He.exm_ok (c.fact 35 rfl)
    x_Circling_NoGrammar := He.exm_ok (c.fact 36 rfl)
    x_Circling_NoRule := He.exm_ok (c.fact 37 rfl)
    x_Circling_Circling := He.exm_ok (c.fact 38 rfl)
    x_Circling_OutOfPlace := He.exm_ok (c.fact 39 rfl)
    x_Circling_TooLong := He.exm_ok (c.fact 40 rfl)
    x_Circling_NoNotes := He.exm_ok (c.fact 41 rfl)
    x_OutOfPlace_GrammarError := He.exm_ok (c.fact 42 rfl)
    x_OutOfPlace_NoGrammar := He.exm_ok (c.fact 43 rfl)
    x_OutOfPlace_NoRule := He.exm_ok (c.fact 44 rfl)
    x_OutOfPlace_Circling := He.exm_ok (c.fact 45 rfl)
    x_OutOfPlace_OutOfPlace := He.exm_ok (c.fact 46 rfl)
    x_OutOfPlace_TooLong := He.exm_ok (c.fact 47 rfl)
    x_OutOfPlace_NoNotes := He.exm_ok (c.fact 48 rfl)
    x_TooLong_GrammarError := He.exm_ok (c.fact 49 rfl)
    x_TooLong_NoGrammar := He.exm_ok (c.fact 50 rfl)
    x_TooLong_NoRule := He.exm_ok (c.fact 51 rfl)
    x_TooLong_Circling := He.exm_ok (c.fact 52 rfl)
    x_TooLong_OutOfPlace := He.exm_ok (c.fact 53 rfl)
    x_TooLong_TooLong := He.exm_ok (c.fact 54 rfl)
    x_TooLong_NoNotes := He.exm_ok (c.fact 55 rfl)
    x_NoNotes_GrammarError := He.exm_ok (c.fact 56 rfl)
    x_NoNotes_NoGrammar := He.exm_ok (c.fact 57 rfl)
    x_NoNotes_NoRule := He.exm_ok (c.fact 58 rfl)
    x_NoNotes_Circling := He.exm_ok (c.fact 59 rfl)
    x_NoNotes_OutOfPlace := He.exm_ok (c.fact 60 rfl)
    x_NoNotes_TooLong := He.exm_ok (c.fact 61 rfl)
    x_NoNotes_NoNotes := He.exm_ok (c.fact 62 rfl)
    g_Grammar := He.glo_ok X G (c.fact 63 rfl)
    c_Grammar := He.cls_ok (c.fact 64 rfl)
    k_Grammar := He.mkr_ok (c.fact 65 rfl)
    n_Grammar_parts := He.noat_ok (c.fact 66 rfl)
    n_Grammar_empty := He.noat_ok (c.fact 67 rfl)
    v_SIGNS := He.str_ok X G (c.fact 68 rfl)
    v_LETTERS := He.str_ok X G (c.fact 69 rfl)
    v_MOST_LETTERS := He.int_ok X G (c.fact 70 rfl)
    v_MOST_DEEP := He.int_ok X G (c.fact 71 rfl)
    v_MOST_RULES := He.int_ok X G (c.fact 72 rfl)
    b_ValueError := He.free_ok X G (c.fact 73 rfl)
    b_all := He.free_ok X G (c.fact 74 rfl)
    b_any := He.free_ok X G (c.fact 75 rfl)
    b_int := He.free_ok X G (c.fact 76 rfl)
    b_isinstance := He.free_ok X G (c.fact 77 rfl)
    b_len := He.free_ok X G (c.fact 78 rfl)
    b_list := He.free_ok X G (c.fact 79 rfl)
    b_min := He.free_ok X G (c.fact 80 rfl)
    b_ord := He.free_ok X G (c.fact 81 rfl)
    b_range := He.free_ok X G (c.fact 82 rfl)
    b_str := He.free_ok X G (c.fact 83 rfl)
    b_tuple := He.free_ok X G (c.fact 84 rfl)
    d_is_sign := at_of' X G c 0 85 (ps := P_is_sign) rfl rfl (fun _ _ _ _ _ _ us hl => match us, hl with | [_], _ => rfl)
    d_is_name := at_of' X G c 1 86 (ps := P_is_name) rfl rfl (fun _ _ _ _ _ _ us hl => match us, hl with | [_], _ => rfl)
    d_is_leaf := at_of' X G c 2 87 (ps := P_is_leaf) rfl rfl (fun _ _ _ _ _ _ us hl => match us, hl with | [_], _ => rfl)
    d_is_part := at_of' X G c 3 88 (ps := P_is_part) rfl rfl (fun _ _ _ _ _ _ us hl => match us, hl with | [_, _], _ => rfl)
    d_within := at_of' X G c 4 89 (ps := P_within) rfl rfl (fun _ _ _ _ _ _ us hl => match us, hl with | [_], _ => rfl)
    d_rules_in := at_of' X G c 5 90 (ps := P_rules_in) rfl rfl (fun _ _ _ _ _ _ us hl => match us, hl with | [_], _ => rfl)
    d_may_be_empty := at_of' X G c 6 91 (ps := P_may_be_empty) rfl rfl (fun _ _ _ _ _ _ us hl => match us, hl with | [_, _], _ => rfl)
    d_empty_rules := at_of' X G c 7 92 (ps := P_empty_rules) rfl rfl (fun _ _ _ _ _ _ us hl => match us, hl with | [_], _ => rfl)
    d_asked_ahead := at_of' X G c 8 93 (ps := P_asked_ahead) rfl rfl (fun _ _ _ _ _ _ us hl => match us, hl with | [_, _], _ => rfl)
    d_comes_back := at_of' X G c 9 94 (ps := P_comes_back) rfl rfl (fun _ _ _ _ _ _ us hl => match us, hl with | [_, _], _ => rfl)
    m_Grammar_init := atm_of X G c 10 95 (ps := P_Grammar_init) rfl rfl (fun _ _ _ _ _ _ us hl => match us, hl with | [_, _], _ => rfl)
    m_Grammar_need := atm_of X G c 11 96 (ps := P_Grammar_need) rfl rfl (fun _ _ _ _ _ _ us hl => match us, hl with | [_, _], _ => rfl)
    m_Grammar_names := atm_of X G c 12 97 (ps := P_Grammar_names) rfl rfl (fun _ _ _ _ _ _ us hl => match us, hl with | [_], _ => rfl)
    m_Grammar_part := atm_of X G c 13 98 (ps := P_Grammar_part) rfl rfl (fun _ _ _ _ _ _ us hl => match us, hl with | [_, _], _ => rfl)
    d_word_at := at_of' X G c 14 99 (ps := P_word_at) rfl rfl (fun _ _ _ _ _ _ us hl => match us, hl with | [_, _], _ => rfl)
    d_number_at := at_of' X G c 15 100 (ps := P_number_at) rfl rfl (fun _ _ _ _ _ _ us hl => match us, hl with | [_, _], _ => rfl)
    d_sign_at := at_of' X G c 16 101 (ps := P_sign_at) rfl rfl (fun _ _ _ _ _ _ us hl => match us, hl with | [_, _], _ => rfl)
    d_leaf_at := at_of' X G c 17 102 (ps := P_leaf_at) rfl rfl (fun _ _ _ _ _ _ us hl => match us, hl with | [_, _], _ => rfl)
    d_opened_at := at_of' X G c 18 103 (ps := P_opened_at) rfl rfl (fun _ _ _ _ _ _ us hl => match us, hl with | [_, _], _ => rfl)
    d_closed := at_of' X G c 19 104 (ps := P_closed) rfl rfl (fun _ _ _ _ _ _ us hl => match us, hl with | [_], _ => rfl)
    d_part_of := at_of' X G c 20 105 (ps := P_part_of) rfl rfl (fun _ _ _ _ _ _ us hl => match us, hl with | [_], _ => rfl)
    d_grammar_of := at_of' X G c 21 106 (ps := P_grammar_of) rfl rfl (fun _ _ _ _ _ _ us hl => match us, hl with | [_], _ => rfl)
    d_law_cell_at := at_of' X G c 22 107 (ps := P_law_cell_at) rfl rfl (fun _ _ _ _ _ _ us hl => match us, hl with | [_, _], _ => rfl)
    d_law_sign_by := at_of' X G c 23 108 (ps := P_law_sign_by) rfl rfl (fun _ _ _ _ _ _ us hl => match us, hl with | [_], _ => rfl)
    d_law_marks := at_of' X G c 24 109 (ps := P_law_marks) rfl rfl (fun _ _ _ _ _ _ us hl => match us, hl with | [_], _ => rfl)
    d_law_alone := at_of' X G c 25 110 (ps := P_law_alone) rfl rfl (fun _ _ _ _ _ _ us hl => match us, hl with | [_, _], _ => rfl)
    d_law_refusal := at_of' X G c 26 111 (ps := P_law_refusal) rfl rfl (fun _ _ _ _ _ _ us hl => match us, hl with | [_], _ => rfl)
    d_law_signs_row := at_of' X G c 27 112 (ps := P_law_signs_row) rfl rfl (fun _ _ _ _ _ _ us hl => match us, hl with | [_, _, _], _ => rfl)
    d_law_signed := at_of' X G c 28 113 (ps := P_law_signed) rfl rfl (fun _ _ _ _ _ _ us hl => match us, hl with | [_, _, _], _ => rfl)
    d_law_broken := at_of' X G c 29 114 (ps := P_law_broken) rfl rfl (fun _ _ _ _ _ _ us hl => match us, hl with | [_, _, _], _ => rfl)
    d_law_deep := at_of' X G c 30 115 (ps := P_law_deep) rfl rfl (fun _ _ _ _ _ _ us hl => match us, hl with | [_], _ => rfl)
    d_law_more_rows := at_of' X G c 31 116 (ps := P_law_more_rows) rfl rfl (fun _ _ _ _ _ _ us hl => match us, hl with | [_, _, _], _ => rfl)
    d_law_odd_row := at_of' X G c 32 117 (ps := P_law_odd_row) rfl rfl (fun _ _ _ _ _ _ us hl => match us, hl with | [_, _, _], _ => rfl)
    d_law := at_of' X G c 33 118 (ps := P_law) rfl rfl (fun _ _ _ _ _ _ us hl => match us, hl with | [_], _ => rfl)
    q := cx.q
  }
abbrev R : PySem.W.OpenRow := PySem.W.OpenLaw.row PySem.Challenge.rw_grammarpack_k07_notes_read
abbrev hk : PySem.W.Hook := hookX 4 fa fn
def ob (s : PySem.W.SharedT) : AlX := obsXG 4 fa fn (HandSHeadRun.getT s)
theorem ob_eq (s : PySem.W.SharedT) : ob s = hk.obs s.abs := obsXG_eq (HandSHeadRun.getT_eq s)
def loose : List PySem.Str := (["_wall", "GrammarError", "NoGrammar", "NoRule", "Circling", "OutOfPlace", "TooLong", "NoNotes"] : List PySem.Str) ++ (["is_sign", "is_name", "is_leaf", "is_part", "within", "rules_in", "may_be_empty", "empty_rules"] : List PySem.Str) ++ (["asked_ahead", "comes_back", "Grammar", "word_at", "number_at", "sign_at", "leaf_at", "opened_at"] : List PySem.Str) ++ (["closed", "part_of", "grammar_of", "_law_cell_at", "_law_sign_by", "_law_marks", "_law_alone", "_law_refusal"] : List PySem.Str) ++ (["_law_signs_row", "_law_signed", "_law_broken", "_law_deep", "_law_more_rows", "_law_odd_row", "SIGNS", "LETTERS"] : List PySem.Str) ++ (["MOST_LETTERS", "MOST_DEEP", "MOST_RULES"] : List PySem.Str)
set_option maxHeartbeats 0 in
theorem run (w : World) : HandSHeadRun.RunEq R (PySem.W.view R.prog [48]) hk ob 20000 loose w := by
  intro os
  kernel_rfl
end Law
open PySem PySem.W PySem.Calls PyProof.Rows
set_option maxHeartbeats 0 in
theorem PySem.Challenge.cw_grammarpack_k07_notes_read_holds : PySem.Challenge.rw_grammarpack_k07_notes_read.Holds := by
  w_on; o_law
  refine HandSHeadRun.head_any (r := OpenLaw.row PySem.Challenge.rw_grammarpack_k07_notes_read) (q := view (OpenLaw.row PySem.Challenge.rw_grammarpack_k07_notes_read).prog [48]) (H := Law.hk) (ob := Law.ob) (M := 20000) (loose := Law.loose) (d := HandSHeadRun.topDef (OpenLaw.row PySem.Challenge.rw_grammarpack_k07_notes_read).prog 48) (kwd := []) Law.ob_eq
    (by kernel_rfl) (fun s => by kernel_rfl) Law.run (by kernel_rfl) (by kernel_rfl) (by kernel_rfl) (by rfl) (by first | assumption | decide +kernel) (by decide +kernel) ⟨rfl, rfl, rfl, rfl, rfl, by decide +kernel⟩ ?hw ?hc
  case hw => w_witness2
  case hc =>
    refine G.law_ends (l := PySem.Challenge.rw_grammarpack_k07_notes_read) (k := Law.lawLevel) (x := "_law_script") (pre := G.pLawT) rfl (by kernel_rfl) ⟨rfl, by decide, by decide⟩ (fun K F a ns hl hS => ⟨a, ns, rfl, rfl, hS, hl⟩) fun w mg fa h Y G hmg0 => ?_
    obtain ⟨K, KX, c⟩ := Y
    have hmg : mg ("law" : PySem.Str) = some (.ref fa) := by
      have e : (HandSHeadRun.topDef (OpenLaw.row PySem.Challenge.rw_grammarpack_k07_notes_read).prog 48).name = ("law" : PySem.Str) := by kernel_rfl
      rw [← e]
      exact hmg0
    have T : Law.Txt K mg := Law.txt_of KX G c
    obtain ⟨f, fd, a⟩ := T.d_law
    have ef := hmg.symm.trans a.mg
    cases ef
    refine ⟨K, fd, KX, fun s v => .of_eq ?_, fun base _ _ => ?_⟩
    · obtain ⟨oc, od, kV, doc, pm, an, cdv, ct, osl, rfl, lk, hcd⟩ := a.fn.ex
      rfl
    · exact Law.ok_law T a.fn
#print axioms PySem.Challenge.cw_grammarpack_k07_notes_read_holds
