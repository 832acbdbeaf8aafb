import PyProof.Rows.All
import Wide.All
import OpenK.AllK
import Wide.FinOn
import PySem.Challenge.RW_pf0071_01
open PySem PySem.W PyProof.Rows PySem.Calls PyProof.V PySem.Spec
set_option Elab.async false
namespace Mine
set_option genSizeOf false
set_option genInjectivity false
local macro_rules | `(tactic| walk_at $s:str) => `(tactic| k_extra $s)
local macro_rules | `(tactic| ktr_enter) => `(tactic| k_extra "enter")
local macro_rules | `(tactic| k_room) => `(tactic| k_extra "room")
local macro_rules | `(tactic| k_mem) => `(tactic| k_extra "mem")
local macro_rules | `(tactic| k_all) => `(tactic| k_extra "all")
local macro_rules | `(tactic| k_upd) => `(tactic| k_extra "upd")
section
theorem ln1 : True := by
  k_with_none
  (k_with "room" => first | exact roomE (by assumption) | exact roomD (by assumption) (by first | decide | omega) | ((try simp only [depth_mark, depth_under_make, depth_under_kw, depth_in1, depth_deeper, depth_caller]); (try dsimp only [ktrTop]); omega))
  (k_with "mem" => first | exact List.mem_cons_self | (refine List.mem_cons_of_mem _ ?_; first | ktr_member | k_mem))
  trivial

/-- the law's looks, by the kernel -/
theorem said : PySem.Challenge.rw_pf0071_01.wellSaid = true := by decide +kernel
set_option synthInstance.maxSize 1 in
set_option maxRecDepth 100000 in
set_option maxHeartbeats 8000000 in
open_top hd for PySem.Challenge.rw_pf0071_01.row
theorem fill : ∀ (w : World) (h : Heap), (hd.heap_1 w.params).In h → PySem.Challenge.rw_pf0071_01.prog = PySem.Challenge.rw_pf0071_01.prog := by k_fill; intros; rfl
end
section
set_option tactic.hygienic false
theorem ln2 : True := by
  k_with_none
  (k_with "room" => first | exact roomE (by assumption) | exact roomD (by assumption) (by first | decide | omega) | ((try simp only [depth_mark, depth_under_make, depth_under_kw, depth_in1, depth_deeper, depth_caller]); (try dsimp only [ktrTop]); omega))
  (k_with "mem" => first | exact List.mem_cons_self | (refine List.mem_cons_of_mem _ ?_; first | ktr_member | k_mem))
  trivial

/-! ## the data -/
set_option genSizeOf false
set_option genInjectivity false
inductive Ex where
  | nm
  | sel
  | cn (x : Str)
  | gx
mutual
inductive St where
  | ret
  | fall
  | ex (e : Ex)
  | brk (l : Option Str)
  | cont (l : Option Str)
  | for_ (l : Option Str) (c : Bool) (b : Sts)
  | rng (l : Option Str) (b : Sts)
  | sw (l : Option Str) (cs : Cs)
  | cho (l : Option Str) (cs : Cs)
  | blk (b : Sts)
  | if1 (b : Sts)
  | if2 (b : Sts) (e : St)
inductive Sts where
  | nil
  | cons (s : St) (r : Sts)
inductive Cs where
  | nil
  | cons (d : Bool) (b : Sts) (r : Cs)
end

noncomputable abbrev tupO (vs : List Value) (n : Nat) : Obj := { cls := .type "tuple", data := .seq vs.toArray n }

inductive LabIn : Value → Option Str → Prop
  | none : LabIn .none .none
  | some {x : Str} {t : Tok} (hx : x.length ≤ 40) : LabIn (.str x t) (.some x)

/-- no label, or a tuple: what stands for a condition or a case's tests -/
inductive TestIn : Value → Bool → Prop
  | none : TestIn .none true
  | some {a : Addr} : TestIn (.ref a) false

inductive ExIn (news : List (Addr × Obj)) : Value → Ex → Prop
  | nm {a : Addr} {n : Nat} {t : Tok} {v1 v2 : Value} : (a, tupO [.str "name" t, v1, v2] n) ∈ news → ExIn news (.ref a) .nm
  | sel {a c : Addr} {n n' : Nat} {t t' : Tok} {v v3 v4 u1 u2 u3 : Value} : (a, tupO [.str "call" t, v, .ref c, v3, v4] n) ∈ news → (c, tupO [.str "select" t', u1, u2, u3] n') ∈ news → ExIn news (.ref a) .sel
  | cn {a c : Addr} {n n' : Nat} {t t' t'' : Tok} {v v' v3 v4 : Value} {x : Str} : (a, tupO [.str "call" t, v, .ref c, v3, v4] n) ∈ news → (c, tupO [.str "name" t', v', .str x t''] n') ∈ news → ExIn news (.ref a) (.cn x)
  | gx {a : Addr} {n : Nat} {t : Tok} {v v3 v4 : Value} : (a, tupO [.str "call" t, v, .ref 171, v3, v4] n) ∈ news → ExIn news (.ref a) .gx
mutual
inductive StIn (news : List (Addr × Obj)) : Value → St → Prop
  | ret {a : Addr} {n : Nat} {t : Tok} {v w : Value} : (a, tupO [.str "return" t, v, w] n) ∈ news → StIn news (.ref a) .ret
  | fall {a : Addr} {n : Nat} {t : Tok} {v : Value} : (a, tupO [.str "fallthrough" t, v] n) ∈ news → StIn news (.ref a) .fall
  | ex {a : Addr} {n : Nat} {t : Tok} {v w : Value} {e : Ex} : (a, tupO [.str "expr" t, v, w] n) ∈ news → ExIn news w e → StIn news (.ref a) (.ex e)
  | brk {a : Addr} {n : Nat} {t u : Tok} {i : Int} {lv : Value} {l : Option Str} : (a, tupO [.str "break" t, .int i u, lv] n) ∈ news → LabIn lv l → StIn news (.ref a) (.brk l)
  | cont {a : Addr} {n : Nat} {t u : Tok} {i : Int} {lv : Value} {l : Option Str} : (a, tupO [.str "continue" t, .int i u, lv] n) ∈ news → LabIn lv l → StIn news (.ref a) (.cont l)
  | for_ {a k : Addr} {n : Nat} {t u : Tok} {i : Int} {lv v3 cv v5 : Value} {l : Option Str} {c : Bool} {b : Sts} : (a, tupO [.str "for" t, .int i u, lv, v3, cv, v5, .ref k] n) ∈ news → LabIn lv l → TestIn cv c → BlkIn news k b → StIn news (.ref a) (.for_ l c b)
  | rng {a k : Addr} {n : Nat} {t u : Tok} {i : Int} {lv v3 v4 v5 : Value} {l : Option Str} {b : Sts} : (a, tupO [.str "range" t, .int i u, lv, v3, v4, v5, .ref k] n) ∈ news → LabIn lv l → BlkIn news k b → StIn news (.ref a) (.rng l b)
  | sw {a k : Addr} {n n' : Nat} {t u : Tok} {i : Int} {lv v3 v4 : Value} {l : Option Str} {vs : List Value} {cs : Cs} : (a, tupO [.str "switch" t, .int i u, lv, v3, v4, .ref k] n) ∈ news → LabIn lv l → (k, tupO vs n') ∈ news → vs.length ≤ 8 → CsIn news vs cs → StIn news (.ref a) (.sw l cs)
  | cho {a k : Addr} {n n' : Nat} {t u : Tok} {i : Int} {lv : Value} {l : Option Str} {vs : List Value} {cs : Cs} : (a, tupO [.str "choose" t, .int i u, lv, .ref k] n) ∈ news → LabIn lv l → (k, tupO vs n') ∈ news → vs.length ≤ 8 → CsIn news vs cs → StIn news (.ref a) (.cho l cs)
  | blk {a : Addr} {b : Sts} : BlkIn news a b → StIn news (.ref a) (.blk b)
  | if1 {a k : Addr} {n : Nat} {t : Tok} {v1 v2 v3 : Value} {b : Sts} : (a, tupO [.str "if" t, v1, v2, v3, .ref k, .none] n) ∈ news → BlkIn news k b → StIn news (.ref a) (.if1 b)
  | if2 {a k e : Addr} {n : Nat} {t : Tok} {v1 v2 v3 : Value} {b : Sts} {s : St} : (a, tupO [.str "if" t, v1, v2, v3, .ref k, .ref e] n) ∈ news → BlkIn news k b → StIn news (.ref e) s → StIn news (.ref a) (.if2 b s)
inductive BlkIn (news : List (Addr × Obj)) : Addr → Sts → Prop
  | mk {a k : Addr} {n n' : Nat} {t : Tok} {v : Value} {vs : List Value} {b : Sts} : (a, tupO [.str "block" t, v, .ref k] n) ∈ news → (k, tupO vs n') ∈ news → StsIn news vs b → BlkIn news a b
inductive StsIn (news : List (Addr × Obj)) : List Value → Sts → Prop
  | nil : StsIn news [] .nil
  | cons {v : Value} {vs : List Value} {s : St} {r : Sts} : StIn news v s → StsIn news vs r → StsIn news (v :: vs) (.cons s r)
inductive CsIn (news : List (Addr × Obj)) : List Value → Cs → Prop
  | nil : CsIn news [] .nil
  | cons {a k : Addr} {n n' : Nat} {dv : Value} {d : Bool} {vs us : List Value} {b : Sts} {r : Cs} : (a, tupO [dv, .ref k] n) ∈ news → TestIn dv d → (k, tupO us n') ∈ news → StsIn news us b → CsIn news vs r → CsIn news (.ref a :: vs) (.cons d b r)
end
theorem ExIn.mono {news news' : List (Addr × Obj)} (hs : ∀ p ∈ news, p ∈ news') {v : Value} {e : Ex} (h : ExIn news v e) : ExIn news' v e := by
  cases h with
  | nm h => exact .nm (hs _ h)
  | sel h h' => exact .sel (hs _ h) (hs _ h')
  | cn h h' => exact .cn (hs _ h) (hs _ h')
  | gx h => exact .gx (hs _ h)
theorem StIn.mono {news news' : List (Addr × Obj)} (hs : ∀ p ∈ news, p ∈ news') {v : Value} {s : St} (h : StIn news v s) : StIn news' v s :=
  StIn.rec
    (motive_1 := fun v s _ => StIn news' v s) (motive_2 := fun a b _ => BlkIn news' a b) (motive_3 := fun vs b _ => StsIn news' vs b) (motive_4 := fun vs c _ => CsIn news' vs c)
    (fun h => .ret (hs _ h)) (fun h => .fall (hs _ h)) (fun h e => .ex (hs _ h) (e.mono hs)) (fun h l => .brk (hs _ h) l) (fun h l => .cont (hs _ h) l)
    (fun h l c _ b => .for_ (hs _ h) l c b) (fun h l _ b => .rng (hs _ h) l b) (fun h l k z _ c => .sw (hs _ h) l (hs _ k) z c) (fun h l k z _ c => .cho (hs _ h) l (hs _ k) z c)
    (fun _ b => .blk b) (fun h _ b => .if1 (hs _ h) b) (fun h _ _ b s => .if2 (hs _ h) b s) (fun h k _ b => .mk (hs _ h) (hs _ k) b) .nil (fun _ _ h r => .cons h r) .nil
    (fun h t k _ _ b r => .cons (hs _ h) t (hs _ k) b r) h
theorem BlkIn.mono {news news' : List (Addr × Obj)} (hs : ∀ p ∈ news, p ∈ news') {a : Addr} {b : Sts} (h : BlkIn news a b) : BlkIn news' a b :=
  BlkIn.rec
    (motive_1 := fun v s _ => StIn news' v s) (motive_2 := fun a b _ => BlkIn news' a b) (motive_3 := fun vs b _ => StsIn news' vs b) (motive_4 := fun vs c _ => CsIn news' vs c)
    (fun h => .ret (hs _ h)) (fun h => .fall (hs _ h)) (fun h e => .ex (hs _ h) (e.mono hs)) (fun h l => .brk (hs _ h) l) (fun h l => .cont (hs _ h) l)
    (fun h l c _ b => .for_ (hs _ h) l c b) (fun h l _ b => .rng (hs _ h) l b) (fun h l k z _ c => .sw (hs _ h) l (hs _ k) z c) (fun h l k z _ c => .cho (hs _ h) l (hs _ k) z c)
    (fun _ b => .blk b) (fun h _ b => .if1 (hs _ h) b) (fun h _ _ b s => .if2 (hs _ h) b s) (fun h k _ b => .mk (hs _ h) (hs _ k) b) .nil (fun _ _ h r => .cons h r) .nil
    (fun h t k _ _ b r => .cons (hs _ h) t (hs _ k) b r) h
theorem StsIn.mono {news news' : List (Addr × Obj)} (hs : ∀ p ∈ news, p ∈ news') {vs : List Value} {b : Sts} (h : StsIn news vs b) : StsIn news' vs b :=
  StsIn.rec
    (motive_1 := fun v s _ => StIn news' v s) (motive_2 := fun a b _ => BlkIn news' a b) (motive_3 := fun vs b _ => StsIn news' vs b) (motive_4 := fun vs c _ => CsIn news' vs c)
    (fun h => .ret (hs _ h)) (fun h => .fall (hs _ h)) (fun h e => .ex (hs _ h) (e.mono hs)) (fun h l => .brk (hs _ h) l) (fun h l => .cont (hs _ h) l)
    (fun h l c _ b => .for_ (hs _ h) l c b) (fun h l _ b => .rng (hs _ h) l b) (fun h l k z _ c => .sw (hs _ h) l (hs _ k) z c) (fun h l k z _ c => .cho (hs _ h) l (hs _ k) z c)
    (fun _ b => .blk b) (fun h _ b => .if1 (hs _ h) b) (fun h _ _ b s => .if2 (hs _ h) b s) (fun h k _ b => .mk (hs _ h) (hs _ k) b) .nil (fun _ _ h r => .cons h r) .nil
    (fun h t k _ _ b r => .cons (hs _ h) t (hs _ k) b r) h
theorem CsIn.mono {news news' : List (Addr × Obj)} (hs : ∀ p ∈ news, p ∈ news') {vs : List Value} {c : Cs} (h : CsIn news vs c) : CsIn news' vs c :=
  CsIn.rec
    (motive_1 := fun v s _ => StIn news' v s) (motive_2 := fun a b _ => BlkIn news' a b) (motive_3 := fun vs b _ => StsIn news' vs b) (motive_4 := fun vs c _ => CsIn news' vs c)
    (fun h => .ret (hs _ h)) (fun h => .fall (hs _ h)) (fun h e => .ex (hs _ h) (e.mono hs)) (fun h l => .brk (hs _ h) l) (fun h l => .cont (hs _ h) l)
    (fun h l c _ b => .for_ (hs _ h) l c b) (fun h l _ b => .rng (hs _ h) l b) (fun h l k z _ c => .sw (hs _ h) l (hs _ k) z c) (fun h l k z _ c => .cho (hs _ h) l (hs _ k) z c)
    (fun _ b => .blk b) (fun h _ b => .if1 (hs _ h) b) (fun h _ _ b s => .if2 (hs _ h) b s) (fun h k _ b => .mk (hs _ h) (hs _ k) b) .nil (fun _ _ h r => .cons h r) .nil
    (fun h t k _ _ b r => .cons (hs _ h) t (hs _ k) b r) h

/-- bodies handed on: a tuple of statements -/
inductive BodyIn (news : List (Addr × Obj)) : Value → Sts → Prop
  | mk {k : Addr} {n : Nat} {vs : List Value} {b : Sts} : (k, tupO vs n) ∈ news → StsIn news vs b → BodyIn news (.ref k) b
theorem BodyIn.mono {news news' : List (Addr × Obj)} (hs : ∀ p ∈ news, p ∈ news') {v : Value} {b : Sts} : BodyIn news v b → BodyIn news' v b
  | .mk h k => .mk (hs _ h) (k.mono hs)
inductive BodiesIn (news : List (Addr × Obj)) : List Value → List Sts → Prop
  | nil : BodiesIn news [] []
  | cons {v : Value} {vs : List Value} {b : Sts} {bs : List Sts} : BodyIn news v b → BodiesIn news vs bs → BodiesIn news (v :: vs) (b :: bs)

noncomputable def Sts.toList : Sts → List St
  | .nil => []
  | .cons s r => s :: r.toList
noncomputable def Cs.bodies : Cs → List Sts
  | .nil => []
  | .cons _ b r => b :: r.bodies
/-- the inner lists -/
noncomputable def St.inn : St → List Sts
  | .ret | .fall | .ex _ | .brk _ | .cont _ => []
  | .for_ _ _ b => [b]
  | .rng _ b => [b]
  | .sw _ cs => cs.bodies
  | .cho _ cs => cs.bodies
  | .blk b => [b]
  | .if1 b => [b]
  | .if2 b e => [b, .cons e .nil]

theorem StsIn.ind {news : List (Addr × Obj)} {P : List Value → Sts → Prop} (h0 : P [] .nil) (h1 : ∀ {v : Value} {vs : List Value} {s : St} {r : Sts}, StIn news v s → P vs r → P (v :: vs) (.cons s r)) {vs : List Value} {b : Sts} (h : StsIn news vs b) : P vs b :=
  StsIn.rec (motive_1 := fun _ _ _ => True) (motive_2 := fun _ _ _ => True) (motive_3 := fun vs b _ => P vs b) (motive_4 := fun _ _ _ => True) (fun _ => trivial) (fun _ => trivial) (fun _ _ => trivial) (fun _ _ => trivial) (fun _ _ => trivial) (fun _ _ _ _ _ => trivial) (fun _ _ _ _ => trivial) (fun _ _ _ _ _ _ => trivial) (fun _ _ _ _ _ _ => trivial) (fun _ _ => trivial) (fun _ _ _ => trivial) (fun _ _ _ _ _ => trivial) (fun _ _ _ _ => trivial) h0 (fun h _ _ r => h1 h r) trivial (fun _ _ _ _ _ _ _ => trivial) h
theorem CsIn.ind {news : List (Addr × Obj)} {P : List Value → Cs → Prop} (h0 : P [] .nil) (h1 : ∀ {a k : Addr} {n n' : Nat} {dv : Value} {d : Bool} {vs us : List Value} {b : Sts} {r : Cs}, (a, tupO [dv, .ref k] n) ∈ news → TestIn dv d → (k, tupO us n') ∈ news → StsIn news us b → P vs r → P (.ref a :: vs) (.cons d b r)) {vs : List Value} {c : Cs} (h : CsIn news vs c) : P vs c :=
  CsIn.rec (motive_1 := fun _ _ _ => True) (motive_2 := fun _ _ _ => True) (motive_3 := fun _ _ _ => True) (motive_4 := fun vs c _ => P vs c) (fun _ => trivial) (fun _ => trivial) (fun _ _ => trivial) (fun _ _ => trivial) (fun _ _ => trivial) (fun _ _ _ _ _ => trivial) (fun _ _ _ _ => trivial) (fun _ _ _ _ _ _ => trivial) (fun _ _ _ _ _ _ => trivial) (fun _ _ => trivial) (fun _ _ _ => trivial) (fun _ _ _ _ _ => trivial) (fun _ _ _ _ => trivial) trivial (fun _ _ _ _ => trivial) h0 (fun h t k b _ _ r => h1 h t k b r) h
theorem none_at {α : Type} {i : Nat} {v : α} {C : Prop} (e : ([] : List α)[i]? = some v) : C := by rw [List.getElem?_nil] at e; cases e
theorem StsIn.get {news : List (Addr × Obj)} {vs : List Value} {b : Sts} {i : Nat} {v : Value} (h : StsIn news vs b) (e : vs[i]? = some v) : ∃ s, b.toList[i]? = some s ∧ StIn news v s := by
  refine StsIn.ind (P := fun vs b => ∀ i, vs[i]? = some v → ∃ s, b.toList[i]? = some s ∧ StIn news v s) (fun i e => none_at e) (fun h ih i e => ?_) h i e
  cases i with
  | zero => cases e; exact ⟨_, rfl, h⟩
  | succ i => exact ih i e
theorem StsIn.length {news : List (Addr × Obj)} {vs : List Value} {b : Sts} (h : StsIn news vs b) : vs.length = b.toList.length :=
  StsIn.ind (P := fun vs b => vs.length = b.toList.length) rfl (fun _ ih => congrArg Nat.succ ih) h
theorem BodiesIn.get {news : List (Addr × Obj)} {vs : List Value} {bs : List Sts} {i : Nat} {v : Value} (h : BodiesIn news vs bs) (e : vs[i]? = some v) : ∃ b, bs[i]? = some b ∧ BodyIn news v b := by
  induction h generalizing i with
  | nil => exact none_at e
  | cons h _ ih =>
    cases i with
    | zero => cases e; exact ⟨_, rfl, h⟩
    | succ i => exact ih e
theorem BodiesIn.length {news : List (Addr × Obj)} {vs : List Value} {bs : List Sts} (h : BodiesIn news vs bs) : vs.length = bs.length := by
  induction h with
  | nil => rfl
  | cons _ _ ih => exact congrArg Nat.succ ih

/-! ## loops over a tuple or a list of the ledger -/
section
variable {prog : Program} {w : World} {A : Around} {E : Value → Shared → Prop} {s : Shared} {env : Env} {h₀ : Heap} {x : Str} {body : List Stmt} {Q : Flow → Shared → Prop}

/-- the names that a loop stores, forgotten -/
noncomputable def lost (stored : List Str) (u m : Str → Option Value) : Str → Option Value := fun y => if stored.contains y then u y else m y

/-- the same but for the names of st -/
noncomputable def Same (st : List Str) (m m₀ : Str → Option Value) : Prop := ∀ z, st.contains z = false → m z = m₀ z
theorem Same.refl {st : List Str} {m : Str → Option Value} : Same st m m := fun _ _ => rfl
theorem Same.put {st : List Str} {m m₀ : Str → Option Value} {x : Str} {v : Option Value} (hx : st.contains x = true) (h : Same st m m₀) : Same st (fun y => if y = x then v else m y) m₀ := fun z hz => by
  have : z ≠ x := fun e => by rw [e, hx] at hz; cases hz
  show (if z = x then v else m z) = m₀ z
  rw [if_neg this]; exact h z hz
theorem Same.lost {st st' : List Str} {u m m₀ : Str → Option Value} (hs : (st'.all fun x => st.contains x) = true) (h : Same st m m₀) : Same st (lost st' u m) m₀ := fun z hz => by
  have : st'.contains z = false := by
    cases q : st'.contains z with
    | false => rfl
    | true =>
      have := List.all_eq_true.mp hs z (by simpa using q)
      rw [this] at hz; cases hz
  show (if st'.contains z then u z else m z) = m₀ z
  rw [this, if_neg (by decide)]; exact h z hz

noncomputable def TurnEnd (h₀ : Heap) (L : Addr) (stored : List Str) (m₀ : Str → Option Value) (J : List (Addr × Obj) → Prop) (own : List (Addr × Obj)) (s₁ s₂ : Shared) : Prop :=
  ∃ h' tk m' nx, s₂ = { s₁ with heap := h', toks := tk } ∧ Fr h₀ L h' m' ∧ News h₀ L h' (own ++ nx) ∧ OwnOff own (nx.map (·.1)) ∧ Same stored m' m₀ ∧ J nx
noncomputable def TurnPost (h₀ : Heap) (L : Addr) (stored : List Str) (m₀ : Str → Option Value) (J : List (Addr × Obj) → Prop) (own : List (Addr × Obj)) (s₁ : Shared) (Q : Flow → Shared → Prop) (f : Flow) (s₂ : Shared) : Prop :=
  match f with
  | .ret v => Q (.ret v) s₂
  | .brk => Q .next s₂
  | _ => TurnEnd h₀ L stored m₀ J own s₁ s₂

theorem lost_eq {stored : List Str} {m₀ m : Str → Option Value} (h : ∀ z, stored.contains z = false → m z = m₀ z) : m = lost stored m m₀ := by
  funext y
  unfold lost
  cases q : stored.contains y with
  | true => rw [if_pos rfl]
  | false => rw [if_neg (by decide)]; exact h y q

theorem iter_gen {I l : Addr} {vs : List Value} {ol : Obj} {m₀ : Str → Option Value} {news : List (Addr × Obj)} {P : Nat → Value → Prop} {St : Nat → Heap → Prop} (stored : List Str) (J : Nat → List (Addr × Obj) → Prop)
    (W : Walks prog w A I [I, l] [I] vs.length P St) (hP : ∀ i v, P i v → vs[i]? = some v) (hI : h₀.get? I = none) (hIL : I ≠ env.locals) (hlL : l ≠ env.locals)
    (hSI : ∀ i h, St i h → ∃ o, h.get? I = some o) (hl : ∀ i nx, J i nx → (l, ol) ∈ nx)
    (hnw : ∀ p ∈ news, p.1 ≠ I) (hst : St 0 s.heap) (F : Fr h₀ env.locals s.heap m₀) (N : News h₀ env.locals s.heap news) (hj : J 0 news)
    (turn : ∀ i v u nx h tk own, vs[i]? = some v → J i nx → OwnOff own (nx.map (·.1)) → Fr h₀ env.locals h (fun y => if y = x then some v else lost stored u m₀ y) → News h₀ env.locals h (own ++ nx) →
      wpAny (model prog w) A (execs body env) (TurnPost h₀ env.locals stored m₀ (J (i + 1)) own { s with heap := h, toks := tk } Q) E { s with heap := h, toks := tk })
    (done : ∀ u nx h tk, J vs.length nx → Fr h₀ env.locals h (lost stored u m₀) → News h₀ env.locals h nx → Q .next { s with heap := h, toks := tk }) :
    LoopAtV prog w A h₀ env x body Q E (.ref I) s := by
  refine ⟨I, [I, l], [I], vs.length, P, St, m₀, news, fun i m nx => (∀ z, stored.contains z = false → m z = m₀ z) ∧ J i nx, rfl, W, ?_, ?_, ?_, hst, F, N, ⟨fun _ _ => rfl, hj⟩, ?_, ?_⟩
  · intro hm
    rcases List.mem_cons.mp hm with e | hm
    · exact hIL e.symm
    · exact hlL (List.mem_singleton.mp hm).symm
  · intro b hb; rw [List.mem_singleton.mp hb]; exact hI
  · intro p hp hq; exact hnw p hp (List.mem_singleton.mp hq)
  · rintro i v m₁ nx s₁ own ⟨h, tk, rfl⟩ hi hPv ⟨hm, hJ⟩ hoff hown hget hfp hst₁ F₁ N₁
    obtain ⟨oI, hoI⟩ := hSI _ _ hst₁
    have hIown : (I, oI) ∈ own.filter fun p => decide (p.1 = I) := List.mem_filter.mpr ⟨hfp I (.head _) hI oI hoI, by simp⟩
    have hlo : h.get? l = some ol := (N₁ _ (List.mem_append.mpr (.inr (hl _ _ hJ)))).1
    have hsep : OwnOff (own.filter fun p => decide (p.1 = I)) (nx.map (·.1)) := by
      intro p hp b hb e
      obtain ⟨q, hq, rfl⟩ := List.mem_map.mp hb
      have h1 : p.1 = I := by simpa using (List.mem_filter.mp hp).2
      exact hoff q hq (List.mem_singleton.mpr (e ▸ h1))
    rw [lost_eq hm] at F₁
    refine wpAny_mono (turn i v m₁ nx h tk _ (hP i v hPv) hJ hsep F₁ fun p hp => N₁ p ((List.mem_append.mp hp).elim (fun q => List.mem_append.mpr (.inl (List.mem_filter.mp q).1)) fun q => List.mem_append.mpr (.inr q))) (fun f s₂ p => ?_) fun _ _ e => e
    have fin : TurnEnd h₀ env.locals stored m₀ (J (i + 1)) (own.filter fun p => decide (p.1 = I)) { s with heap := h, toks := tk } s₂ →
        LoopStepU h₀ env.locals [I] own (fun m nx => (∀ z, stored.contains z = false → m z = m₀ z) ∧ J (i + 1) nx) { s with heap := h, toks := tk } .next s₂ := by
      rintro ⟨h', tk', m', nx', e, F', N', ho, hm', hJ'⟩
      refine ⟨rfl, h', tk', m', nx', e, F', fun p hp => ?_, fun p hp hq => ?_, hm', hJ'⟩
      · rcases List.mem_append.mp hp with q | q
        · by_cases hpI : p.1 = I
          · exact N' p (List.mem_append.mpr (.inl (List.mem_filter.mpr ⟨q, by simpa using hpI⟩)))
          · have h1 : p.1 = l := by
              rcases List.mem_cons.mp (hown p q) with h2 | h2
              · exact absurd h2 hpI
              · exact List.mem_singleton.mp h2
            have h2 : h.get? p.1 = some p.2 := hget p q
            rw [h1, hlo] at h2
            have h3 : p = (l, ol) := Prod.ext h1 (Option.some.inj h2).symm
            rw [h3]
            exact N' _ (List.mem_append.mpr (.inr (hl _ _ hJ')))
        · exact N' p (List.mem_append.mpr (.inr q))
      · exact ho _ hIown p.1 (List.mem_map.mpr ⟨p, hp, rfl⟩) (List.mem_singleton.mp hq).symm
    cases f with
    | ret v => exact .ret p
    | brk => exact .brk p
    | next => exact .next (fin p)
    | cont => exact .cont (fin p)
  · rintro h' tk m' nx' F' N' _ ⟨hm, hJ⟩
    rw [lost_eq hm] at F'
    exact done m' nx' h' tk hJ F' N'

theorem iter_tup {l : Addr} {vs : List Value} {n : Nat} {m₀ : Str → Option Value} {news : List (Addr × Obj)} (stored : List Str) (J : Nat → List (Addr × Obj) → Prop)
    (hh : A.handled = none) (hl : ∀ i nx, J i nx → (l, tupO vs n) ∈ nx)
    (F : Fr h₀ env.locals s.heap m₀) (N : News h₀ env.locals s.heap news) (hj : J 0 news)
    (turn : ∀ i v u nx h tk own, vs[i]? = some v → J i nx → OwnOff own (nx.map (·.1)) → Fr h₀ env.locals h (fun y => if y = x then some v else lost stored u m₀ y) → News h₀ env.locals h (own ++ nx) →
      wpAny (model prog w) A (execs body env) (TurnPost h₀ env.locals stored m₀ (J (i + 1)) own { s with heap := h, toks := tk } Q) E { s with heap := h, toks := tk })
    (done : ∀ u nx h tk, J vs.length nx → Fr h₀ env.locals h (lost stored u m₀) → News h₀ env.locals h nx → Q .next { s with heap := h, toks := tk }) :
    wpAny (model prog w) A (pyIter (.ref l)) (fun it s₂ => LoopAtV prog w A h₀ env x body Q E it s₂) E s := by
  have D := N _ (hl _ _ hj)
  have hol : s.heap.get? l = some (tupO vs n) := D.1
  have hls : s.heap.IsTuple l vs.toArray := ⟨_, hol, rfl, n, rfl⟩
  have hlt : l < s.heap.objs.size := Heap.lt_size hol
  have hne : l ≠ s.heap.objs.size := Nat.ne_of_lt hlt
  refine wpAny_pyIter_tuple hls ?_
  have W := Walks.tuple (prog := prog) (w := w) hh s.heap.objs.size l hne vs.toArray
  rw [List.size_toArray] at W
  exact iter_gen (ol := tupO vs n) stored J W (fun i v h => by simpa using h) (next_is_new F) (Nat.ne_of_gt F.ns.lt) D.2.1 (fun i h st => by obtain ⟨⟨o, ho, _⟩, _⟩ := st; exact ⟨o, ho⟩) hl
    (fun p hp e => absurd (Heap.lt_size (N p hp).1) (e ▸ Nat.lt_irrefl _)) ⟨⟨_, Heap.get?_push_size _ rfl, rfl, rfl⟩, hls.at fun o e => Heap.get?_push_of_some _ e⟩ (F.push _) (fun p hp => ⟨Heap.get?_push_of_some _ (N p hp).1, (N p hp).2⟩) hj turn done

theorem iter_list {l : Addr} {vs : List Value} {n : Nat} {m₀ : Str → Option Value} {news : List (Addr × Obj)} (stored : List Str) (J : Nat → List (Addr × Obj) → Prop)
    (hh : A.handled = none) (hl : ∀ i nx, J i nx → (l, listOf vs.toArray n) ∈ nx)
    (F : Fr h₀ env.locals s.heap m₀) (N : News h₀ env.locals s.heap news) (hj : J 0 news)
    (turn : ∀ i v u nx h tk own, vs[i]? = some v → J i nx → OwnOff own (nx.map (·.1)) → Fr h₀ env.locals h (fun y => if y = x then some v else lost stored u m₀ y) → News h₀ env.locals h (own ++ nx) →
      wpAny (model prog w) A (execs body env) (TurnPost h₀ env.locals stored m₀ (J (i + 1)) own { s with heap := h, toks := tk } Q) E { s with heap := h, toks := tk })
    (done : ∀ u nx h tk, J vs.length nx → Fr h₀ env.locals h (lost stored u m₀) → News h₀ env.locals h nx → Q .next { s with heap := h, toks := tk }) :
    wpAny (model prog w) A (pyIter (.ref l)) (fun it s₂ => LoopAtV prog w A h₀ env x body Q E it s₂) E s := by
  have D := N _ (hl _ _ hj)
  have hol : s.heap.get? l = some (listOf vs.toArray n) := D.1
  have hls : s.heap.IsList l vs.toArray := ⟨_, hol, rfl, n, rfl⟩
  have hlt : l < s.heap.objs.size := Heap.lt_size hol
  have hne : l ≠ s.heap.objs.size := Nat.ne_of_lt hlt
  refine wpAny_pyIter_list hls ?_
  have W := Walks.list (prog := prog) (w := w) hh s.heap.objs.size l hne vs.toArray
  rw [List.size_toArray] at W
  exact iter_gen (ol := listOf vs.toArray n) stored J W (fun i v h => by simpa using h) (next_is_new F) (Nat.ne_of_gt F.ns.lt) D.2.1 (fun i h st => by obtain ⟨⟨o, ho, _⟩, _⟩ := st; exact ⟨o, ho⟩) hl
    (fun p hp e => absurd (Heap.lt_size (N p hp).1) (e ▸ Nat.lt_irrefl _)) ⟨⟨_, Heap.get?_push_size _ rfl, rfl, rfl⟩, hls.at fun o e => Heap.get?_push_of_some _ e⟩ (F.push _) (fun p hp => ⟨Heap.get?_push_of_some _ (N p hp).1, (N p hp).2⟩) hj turn done
end
end
section
set_option tactic.hygienic false
theorem ln3 : True := by
  k_with_none
  (k_with "room" => first | exact roomE (by assumption) | exact roomD (by assumption) (by first | decide | omega) | ((try simp only [depth_mark, depth_under_make, depth_under_kw, depth_in1, depth_deeper, depth_caller]); (try dsimp only [ktrTop]); omega))
  (k_with "mem" => first | exact List.mem_cons_self | (refine List.mem_cons_of_mem _ ?_; first | ktr_member | k_mem))
  trivial

/-! ## a list comprehension over a tuple or a list, whose turns make what they like and change nothing -/
noncomputable abbrev testsOf (ifs : List PySem.Expr) (env : Env) : Sem Bool := forIn ifs true fun c r => if r = true then do let ok ← isTrue c env (eval c env); pure (ForInStep.yield ok) else pure (ForInStep.yield r)

section
variable {prog : Program} {w : World} {A : Around} {E : Value → Shared → Prop} {env : Env}

theorem roomD {dp N n R : Nat} (h : dp + N < R) (hn : n + 1 ≤ N) : dp + 1 + n < R := Nat.lt_of_le_of_lt (Nat.le_trans (Nat.le_of_eq (by rw [Nat.add_assoc, Nat.add_comm 1 n])) (Nat.add_le_add_left hn dp)) h
theorem roomE {dp N R : Nat} (h : dp + N < R) : dp < R := Nat.lt_of_le_of_lt (Nat.le_add_right dp N) h
theorem roomU {un N n R : Nat} (h : un + 8 * N < R) (hn : n + 1 ≤ N) : un + 3 + 8 * n < R := by omega
theorem roomV {un N R : Nat} (h : un + 8 * N < R) (hn : 1 ≤ N) : un + 3 < R := by omega
/-- a mark: what stands within is shown by hand -/
noncomputable def Held (P : Prop) : Prop := P
theorem Held.intro {P : Prop} (h : P) : Held P := h
theorem Held.out {M : Model} {A : Around} {α : Type} {t : Sem α} {Q : α → Shared → Prop} {E : Value → Shared → Prop} {s : Shared} (h : Held (wpAny M A t Q E s)) : wpAny M A t Q E s := h
theorem Held.un {P : Prop} (h : Held P) : P := h

/-- what a turn shows -/
noncomputable def CompTurn (prog : Program) (w : World) (A : Around) (env : Env) (scope : Scope) (cl : List (Str × Addr)) (x : Str) (ifs : List PySem.Expr) (elt : PySem.Expr) (vs : List Value) (G : Nat → List Value → List (Addr × Obj) → Prop) (s₁ : Shared) : Prop :=
  ∀ C i v ys tl s₃ mC E', vs[i]? = some v → s₁.heap.objs.size ≤ C → G i ys tl → s₃.heap.Ns C mC → mC x = some v → (∀ b o, s₁.heap.get? b = some o → s₃.heap.get? b = some o) → (∀ p ∈ tl, s₃.heap.get? p.1 = some p.2) →
    wpAny (model prog w) A (testsOf ifs (compEnvC scope cl C env)) (fun ok s₄ => Held (Keeps s₃ s₄ ∧ if ok = true then
      wpAny (model prog w) A (eval elt (compEnvC scope cl C env)) (fun y s₅ => Held (Keeps s₄ s₅ ∧ ∃ tl', (∀ p ∈ tl', s₅.heap.get? p.1 = some p.2 ∧ s₃.heap.objs.size ≤ p.1) ∧ G (i + 1) (ys ++ [y]) (tl' ++ tl))) E' s₄
      else G (i + 1) ys tl)) E' s₃

theorem Keeps.rfl' (s : Shared) : Keeps s s := ⟨s.heap, s.toks, rfl, fun _ _ e => e⟩

theorem comp_loop {elt iter : PySem.Expr} {x : Str} {px : Pos} {ifs : List PySem.Expr} {scope : Scope} {cl : List (Str × Addr)} {pos : Pos} {s s₁ : Shared} {I D C l : Addr} {vs : List Value} {P : Nat → Value → Prop} {St : Nat → Heap → Prop} {R : Result → Shared → Prop}
    {G : Nat → List Value → List (Addr × Obj) → Prop}
    (W : Walks prog w A I [I, l] [I] vs.length P St) (hP : ∀ i v, P i v → vs[i]? = some v) (hlive : ∀ i h, St i h → ∃ o, h.get? I = some o)
    (hkind : scope.kind = .function) (hx : scope.names.lookup x = some .local) (hsz : vs.length ≤ sizeLine)
    (hI : s₁.heap.get? I = none) (hC : s₁.heap.get? C = none) (hCs : s₁.heap.objs.size ≤ C) (hD : s₁.heap.get? D = none) (hDC : D ≠ C) (hDI : D ≠ I) (hCI : C ≠ I) (hlC : C ≠ l) (hlD : D ≠ l)
    (keep : ∀ b o, s₁.heap.get? b = some o → s.heap.get? b = some o) (hst : St 0 s.heap) (hacc : s.heap.PlainList D #[]) {m : Str → Option Value} (hn : s.heap.Ns C m) (g0 : G 0 [] [])
    (hq : CompTurn prog w A env scope cl x ifs elt vs G s₁)
    (hR : ∀ h' tk ys tl k mC, h'.Ns C mC → G vs.length ys tl → (∀ b o, s₁.heap.get? b = some o → h'.get? b = some o) → h'.get? D = some (listOf ys.toArray k) → (∀ p ∈ tl, h'.get? p.1 = some p.2 ∧ p.1 ≠ D ∧ p.1 ≠ C ∧ s₁.heap.objs.size ≤ p.1) → R (.ok .next) { s with heap := h', toks := tk }) :
    codeAny (model prog w) A (.compLoop (.ListComp elt [⟨.Name x px, iter, ifs, 0⟩] scope pos) 0 (.ref I) (.ref D) (compEnvC scope cl C env)) R s := by
  have hxl : (compEnvC scope cl C env).kindOf x = some .local := lookup_relabel_local hx
  have hpl : ((compEnvC scope cl C env).scope.kind == .class || ((compEnvC scope cl C env).scope.kind == .module && (compEnvC scope cl C env).locals != (compEnvC scope cl C env).globals)) = false := by simp [compEnvC, relabel, hkind]
  refine codeAny_compLoop_tests
    (fun k s' => ∃ h' tk i m' ys tl, s' = { s with heap := h', toks := tk } ∧ St i h' ∧ i ≤ vs.length ∧ ys.length ≤ i ∧ h'.PlainList D ys.toArray ∧ h'.Ns C m' ∧ G i ys tl ∧ k = vs.length + 1 - i ∧
      (∀ b o, s₁.heap.get? b = some o → h'.get? b = some o) ∧ (∀ p ∈ tl, h'.get? p.1 = some p.2 ∧ p.1 ≠ D ∧ p.1 ≠ C ∧ p.1 ≠ I ∧ s₁.heap.objs.size ≤ p.1)) ?_ (vs.length + 1)
    ⟨s.heap, s.toks, 0, m, [], [], rfl, hst, Nat.zero_le _, Nat.le_refl _, hacc, hn, g0, rfl, keep, fun _ h => (nomatch h)⟩
  rintro k s' ⟨H, tk, i, m', ys, tl, rfl, hst', hi, hyl, hacc', hn', hG, rfl, hk, htl⟩
  have hnI : ∀ b o, s₁.heap.get? b = some o → b ≠ I := fun b o e q => by rw [q, hI] at e; cases e
  have hnC : ∀ b o, s₁.heap.get? b = some o → b ≠ C := fun b o e q => by rw [q, hC] at e; cases e
  have hnD : ∀ b o, s₁.heap.get? b = some o → b ≠ D := fun b o e q => by rw [q, hD] at e; cases e
  have nw : ∀ b, b ≠ I → b ∉ [I] := fun b hb h => hb (List.mem_singleton.mp h)
  by_cases hlt : i < vs.length
  · refine W.item i _ _ _ hlt hst' fun v h₁ tk₁ hPv hst₁ hk₁ => ?_
    refine wpAny_assign_Name (wpAny_storeName_local hxl (hn'.at' fun o e => hk₁ _ o (nw _ hCI) e) (fun h₂ hn₂ hs₂ => ?_) hpl)
    have up₂ : ∀ b o, b ≠ C → b ≠ I → H.get? b = some o → h₂.get? b = some o := fun b o hbC hbI e => hs₂.extBut b o hbC (hk₁ b o (nw b hbI) e)
    have hst₂ : St (i + 1) h₂ := W.frame _ _ _ hst₁ fun b hb o e => hs₂.extBut b o (fun h => by
      have h : b = C := h
      rcases List.mem_cons.mp hb with q | q
      · exact hCI (h.symm.trans q)
      · exact hlC (h.symm.trans (List.mem_singleton.mp q))) e
    have T := hq C i v ys tl { s with heap := h₂, toks := tk₁ + 1 } _ (notedBy (model prog w) A (compEnvC scope cl C env) fun e s' => R (.error e) s') (hP i v hPv) hCs hG hn₂ (by simp) (fun b o e => up₂ b o (hnC b o e) (hnI b o e) (hk b o e)) (fun p hp => up₂ _ _ (htl p hp).2.2.1 (htl p hp).2.2.2.1 (htl p hp).1)
    refine wpAny_mono T (fun ok s₃ h₃ => ?_) fun _ _ e => e
    obtain ⟨⟨h₃, tk₃, rfl, hk₃⟩, h₃'⟩ := h₃
    have hst₃ : St (i + 1) h₃ := W.frame _ _ _ hst₂ fun b _ o e => hk₃ b o e
    have hacc₃ : h₃.PlainList D ys.toArray := hacc'.at fun o e => hk₃ _ o (up₂ D o hDC hDI e)
    have hn₃ := hn₂.keeps hk₃
    have htl₃ : ∀ p ∈ tl, h₃.get? p.1 = some p.2 ∧ p.1 ≠ D ∧ p.1 ≠ C ∧ p.1 ≠ I ∧ s₁.heap.objs.size ≤ p.1 := fun p hp => ⟨hk₃ _ _ (up₂ _ _ (htl p hp).2.2.1 (htl p hp).2.2.2.1 (htl p hp).1), (htl p hp).2⟩
    cases ok with
    | false =>
      simp only [Bool.false_eq_true, if_false] at h₃' ⊢
      exact ⟨vs.length + 1 - (i + 1), by omega, h₃, tk₃, i + 1, _, ys, tl, rfl, hst₃, hlt, Nat.le_succ_of_le hyl, hacc₃, hn₃, h₃', rfl, fun b o e => hk₃ b o (up₂ b o (hnC b o e) (hnI b o e) (hk b o e)), htl₃⟩
    | true =>
      simp only [if_true] at h₃' ⊢
      refine wpAny_mono h₃' (fun y s₄ h₄ => ?_) fun _ _ e => e
      obtain ⟨⟨h₄, tk₄, rfl, hk₄⟩, tl', htl', hG'⟩ := h₄
      have hys : ys.toArray.size ≤ sizeLine := by rw [List.size_toArray]; omega
      refine wpAny_list_append_plain (hsz := hys) (hacc₃.at fun o e => hk₄ _ o e) fun h₅ hl₅ hs₅ => ?_
      have up₅ : ∀ b o, b ≠ D → h₄.get? b = some o → h₅.get? b = some o := fun b o hb e => hs₅.extBut b o hb e
      refine ⟨vs.length + 1 - (i + 1), by omega, h₅, tk₄, i + 1, _, ys ++ [y], tl' ++ tl, rfl, ?_, hlt, by simpa using Nat.succ_le_succ hyl, by simpa using hl₅, (hn₃.keeps hk₄).sameBut hs₅ (Ne.symm hDC), hG', rfl, fun b o e => up₅ b o (hnD b o e) (hk₄ b o (hk₃ b o (up₂ b o (hnC b o e) (hnI b o e) (hk b o e)))), fun p hp => ?_⟩
      · refine W.frame _ _ h₅ hst₃ fun b hb o e => up₅ b o (fun h => ?_) (hk₄ b o e)
        rcases List.mem_cons.mp hb with q | q
        · exact hDI (h.symm.trans q)
        · exact hlD (h.symm.trans (List.mem_singleton.mp q))
      · rcases List.mem_append.mp hp with hp | hp
        · obtain ⟨q1, q2⟩ := htl' p hp
          have q2' : h₂.get? p.1 = none := Heap.get?_none_of_le q2
          have pD : p.1 ≠ D := fun e => by obtain ⟨n, ho⟩ := hacc'; rw [e, up₂ D _ hDC hDI ho] at q2'; cases q2'
          have pC : p.1 ≠ C := fun e => by obtain ⟨o, _, _, ho, _⟩ := hn₂; rw [e] at q2'; have ho' : h₂.get? C = some o := ho; rw [ho'] at q2'; cases q2'
          have pI : p.1 ≠ I := fun e => by obtain ⟨o, ho⟩ := hlive _ _ hst₂; rw [e, ho] at q2'; cases q2'
          exact ⟨up₅ _ _ pD q1, pD, pC, pI, Nat.le_trans hCs (Nat.le_trans (Nat.le_of_lt hn₂.lt) q2)⟩
        · exact ⟨up₅ _ _ (htl₃ p hp).2.1 (hk₄ _ _ (htl₃ p hp).1), (htl₃ p hp).2⟩
  · have hin : i = vs.length := by omega
    subst hin
    refine W.done _ _ _ hst' fun h₁ tk₁ hk₁ => ?_
    obtain ⟨k, hk'⟩ := hacc'
    exact hR h₁ tk₁ ys tl k m' (hn'.at' fun o e => hk₁ _ o (nw _ hCI) e) hG (fun b o e => hk₁ b o (nw _ (hnI b o e)) (hk b o e)) (hk₁ _ _ (nw _ hDI) hk') fun p hp => ⟨hk₁ _ _ (nw _ (htl p hp).2.2.2.1) (htl p hp).1, (htl p hp).2.1, (htl p hp).2.2.1, (htl p hp).2.2.2.2⟩

/-- the source: a tuple or a list with the items vs -/
noncomputable def SeqAt (h : Heap) (l : Addr) (vs : List Value) : Prop := h.IsTuple l vs.toArray ∨ h.IsList l vs.toArray

theorem comp_block {elt iter : PySem.Expr} {x : Str} {px : Pos} {ifs : List PySem.Expr} {scope : Scope} {cl : List (Str × Addr)} {pos : Pos} {s₁ : Shared} {l : Addr} {vs : List Value} {RR : Value → Addr → Result → Shared → Prop}
    {G : Nat → List Value → List (Addr × Obj) → Prop} (hh : A.handled = none) (hl : SeqAt s₁.heap l vs) (hcell : ∀ y ∈ scope.names, y.2 ≠ .cell)
    (hkind : scope.kind = .function) (hx : scope.names.lookup x = some .local) (hsz : vs.length ≤ sizeLine) (g0 : G 0 [] [])
    (hq : CompTurn prog w A env scope cl x ifs elt vs G s₁)
    (hRR : ∀ D C h' tk ys tl k mC, s₁.heap.objs.size ≤ D → s₁.heap.get? C = none → D ≠ C → h'.Ns C mC → G vs.length ys tl → (∀ b o, s₁.heap.get? b = some o → h'.get? b = some o) → h'.get? D = some (listOf ys.toArray k) → (∀ p ∈ tl, h'.get? p.1 = some p.2 ∧ p.1 ≠ D ∧ p.1 ≠ C ∧ s₁.heap.objs.size ≤ p.1) → RR (.ref D) C (.ok .next) { s₁ with heap := h', toks := tk }) :
    wpAny (model prog w) A (pyIter (.ref l)) (fun it s₂ => wpAny (model prog w) A (newList []) (fun acc s₃ => wpAny (model prog w) A (newFunctionEnv scope env.globals cl [] env.qual none .none (some env)) (fun cenv s₄ =>
      codeAny (model prog w) A (.compStart (.ListComp elt [⟨.Name x px, iter, ifs, 0⟩] scope pos) 0 it acc { cenv with scope := relabel scope env }) (RR acc cenv.locals) s₄) E s₃) E s₂) E s₁ := by
  have hlt : l < s₁.heap.objs.size := by rcases hl with ⟨_, e, _⟩ | ⟨_, e, _⟩ <;> exact Heap.lt_size e
  have hne : l ≠ s₁.heap.objs.size := Nat.ne_of_lt hlt
  have fresh : ∀ a, s₁.heap.objs.size ≤ a → s₁.heap.get? a = none := fun a ha => by
    cases e : s₁.heap.get? a with
    | none => rfl
    | some o' => exact absurd (Heap.lt_size e) (Nat.not_lt.mpr ha)
  have main : ∀ (oI : Obj) (P : Nat → Value → Prop) (St : Nat → Heap → Prop), oI.isFreed = false → Walks prog w A s₁.heap.objs.size [s₁.heap.objs.size, l] [s₁.heap.objs.size] vs.length P St → (∀ i v, P i v → vs[i]? = some v) → (∀ i h, St i h → ∃ o, h.get? s₁.heap.objs.size = some o) → St 0 (s₁.heap.push oI) →
      wpAny (model prog w) A (newList []) (fun acc s₃ => wpAny (model prog w) A (newFunctionEnv scope env.globals cl [] env.qual none .none (some env)) (fun cenv s₄ =>
        codeAny (model prog w) A (.compStart (.ListComp elt [⟨.Name x px, iter, ifs, 0⟩] scope pos) 0 (.ref s₁.heap.objs.size) acc { cenv with scope := relabel scope env }) (RR acc cenv.locals) s₄) E s₃) E { s₁ with heap := s₁.heap.push oI } := by
    intro oI P St hf W hP hlive hst
    refine wpAny_newObj_type (wpAny_newFunctionEnv hcell (by intro y hy; simp at hy) (fun h₁ hns₁ hsb₁ => ?_) hkind)
    dsimp only at hns₁ hsb₁ ⊢
    have z1 : (s₁.heap.push oI).objs.size = s₁.heap.objs.size + 1 := Heap.size_push _ _
    have z2 : ((s₁.heap.push oI).push ({ cls := .type "list", dict := none, data := .seq ([] : List Value).toArray } : Obj)).objs.size = s₁.heap.objs.size + 2 := by rw [Heap.size_push, z1]
    have old : ∀ b o, b < s₁.heap.objs.size + 2 → ((s₁.heap.push oI).push ({ cls := .type "list", dict := none, data := .seq ([] : List Value).toArray } : Obj)).get? b = some o → h₁.get? b = some o := fun b o hb e =>
      hsb₁.extBut b o (by rw [z2]; exact Nat.ne_of_lt hb) (Heap.get?_push_of_some _ e)
    have keep : ∀ b o, s₁.heap.get? b = some o → h₁.get? b = some o := fun b o e => old b o (Nat.lt_add_right 2 (Heap.lt_size e)) (Heap.get?_push_of_some _ (Heap.get?_push_of_some _ e))
    have hacc : h₁.PlainList (s₁.heap.push oI).objs.size #[] := ⟨0, old _ _ (by rw [z1]; exact Nat.lt_succ_self _) (Heap.get?_push_size _ rfl)⟩
    have hst₁ : St 0 h₁ := W.frame _ _ _ hst fun b hb o e => old b o (by
      rcases List.mem_cons.mp hb with q | q
      · rw [q]; exact Nat.lt_add_of_pos_right (by decide)
      · rw [List.mem_singleton.mp q]; exact Nat.lt_add_right 2 hlt) (Heap.get?_push_of_some _ e)
    have loop : ∀ s₃ : Shared, s₃ = { s₁ with heap := h₁, toks := s₁.toks + ([] : List (Str × Value)).length } →
        codeAny (model prog w) A (.compLoop (.ListComp elt [⟨.Name x px, iter, ifs, 0⟩] scope pos) 0 (.ref s₁.heap.objs.size) (.ref (s₁.heap.push oI).objs.size) (compEnvC scope cl ((s₁.heap.push oI).push ({ cls := .type "list", dict := none, data := .seq ([] : List Value).toArray } : Obj)).objs.size env))
          (RR (.ref (s₁.heap.push oI).objs.size) ((s₁.heap.push oI).push ({ cls := .type "list", dict := none, data := .seq ([] : List Value).toArray } : Obj)).objs.size) s₃ := by
      rintro s₃ rfl
      refine comp_loop (s₁ := s₁) W hP hlive hkind hx hsz (fresh _ (Nat.le_refl _)) (fresh _ (by rw [z2]; exact Nat.le_add_right _ _)) (by rw [z2]; exact Nat.le_add_right _ _) (fresh _ (by rw [z1]; exact Nat.le_succ _)) (Nat.ne_of_lt (by rw [z1, z2]; exact Nat.lt_succ_self _)) (Nat.ne_of_gt (by rw [z1]; exact Nat.lt_succ_self _)) (Nat.ne_of_gt (by rw [z2]; exact Nat.lt_add_of_pos_right (by decide))) (Nat.ne_of_gt (by rw [z2]; exact Nat.lt_add_right 2 hlt)) (Nat.ne_of_gt (by rw [z1]; exact Nat.lt_succ_of_lt hlt)) keep hst₁ hacc hns₁ g0 hq ?_
      intro h' tk ys tl k mC hn hG hk hD ht
      exact hRR _ _ h' tk ys tl k mC (by rw [z1]; exact Nat.le_succ _) (fresh _ (by rw [z2]; exact Nat.le_add_right _ _)) (Nat.ne_of_lt (by rw [z1, z2]; exact Nat.lt_succ_self _)) hn hG hk hD ht
    exact codeAny_compStart_list (loop _ rfl) (W.self 0 _ _ _ hst₁ (loop _ rfl))
  rcases hl with hl | hl
  · have W := Walks.tuple (prog := prog) (w := w) hh s₁.heap.objs.size l hne vs.toArray
    rw [List.size_toArray] at W
    exact wpAny_pyIter_tuple hl (main _ _ _ rfl W (fun i v h => by simpa using h) (fun i h st => by obtain ⟨⟨o, ho, _⟩, _⟩ := st; exact ⟨o, ho⟩) ⟨⟨_, Heap.get?_push_size _ rfl, rfl, rfl⟩, hl.at fun o e => Heap.get?_push_of_some _ e⟩)
  · have W := Walks.list (prog := prog) (w := w) hh s₁.heap.objs.size l hne vs.toArray
    rw [List.size_toArray] at W
    exact wpAny_pyIter_list hl (main _ _ _ rfl W (fun i v h => by simpa using h) (fun i h st => by obtain ⟨⟨o, ho, _⟩, _⟩ := st; exact ⟨o, ho⟩) ⟨⟨_, Heap.get?_push_size _ rfl, rfl, rfl⟩, hl.at fun o e => Heap.get?_push_of_some _ e⟩)


theorem comp_eval {s : Shared} {elt iter : PySem.Expr} {x : Str} {px : Pos} {ifs : List PySem.Expr} {scope : Scope} {cl : List (Str × Addr)} {pos : Pos} {Q : Value → Shared → Prop}
    (hh : A.handled = none) (hclos : closureFor scope env = pure cl) (hcell : ∀ y ∈ scope.names, y.2 ≠ .cell) (hkind : scope.kind = .function)
    (hnames : ∀ y ∈ scope.names, y.2 = .local → scope.names.lookup y.1 = some .local) (hx : scope.names.lookup x = some .local)
    (h : wpAny (model prog w) A (eval iter env) (fun xv s₁ => Held (∃ l vs, ∃ G : Nat → List Value → List (Addr × Obj) → Prop, xv = .ref l ∧ SeqAt s₁.heap l vs ∧ vs.length ≤ sizeLine ∧ G 0 [] [] ∧ CompTurn prog w A env scope cl x ifs elt vs G s₁ ∧
      (∀ D h' tk ys tl k, s₁.heap.objs.size ≤ D → G vs.length ys tl → (∀ b o, s₁.heap.get? b = some o → h'.get? b = some o) → h'.get? D = some (listOf ys.toArray k) → (∀ p ∈ tl, h'.get? p.1 = some p.2 ∧ p.1 ≠ D ∧ s₁.heap.objs.size ≤ p.1) → Q (.ref D) { s₁ with heap := h', toks := tk }))) E s)
    (hs : ∀ x, foldedSetIterable iter env x = pure x) :
    wpAny (model prog w) A (eval (.ListComp elt [⟨.Name x px, iter, ifs, 0⟩] scope pos) env) Q E s := by
  rw [eval_ListComp]
  refine wpAny_comprehension_free (use := none) rfl hs hclos hkind hnames (wpAny_mono h (fun xv s₁ h₁ => ?_) fun _ _ e => e)
  obtain ⟨l, vs, G, rfl, hl, hsz, g0, hq, hQ⟩ := h₁
  refine comp_block (RR := fun acc C => compPost (model prog w) A E none Q acc C) hh hl hcell hkind hx hsz g0 hq ?_
  intro D C h' tk ys tl k mC hD hC hDC hn hG hk hDo ht
  refine ⟨mC, hn, fun h'' hs'' => ?_⟩
  have up : ∀ b o, b ≠ C → h'.get? b = some o → h''.get? b = some o := fun b o hb e => hs''.extBut b o hb e
  exact hQ D h'' tk ys tl k hD hG (fun b o e => up b o (by rintro rfl; rw [hC] at e; cases e) (hk b o e)) (up _ _ hDC hDo) fun p hp => ⟨up _ _ (ht p hp).2.2.1 (ht p hp).1, (ht p hp).2.1, (ht p hp).2.2.2⟩
end
end
section
set_option tactic.hygienic false
theorem ln4 : True := by
  k_with_none
  (k_with "room" => first | exact roomE (by assumption) | exact roomD (by assumption) (by first | decide | omega) | ((try simp only [depth_mark, depth_under_make, depth_under_kw, depth_in1, depth_deeper, depth_caller]); (try dsimp only [ktrTop]); omega))
  (k_with "mem" => first | exact List.mem_cons_self | (refine List.mem_cons_of_mem _ ?_; first | ktr_member | k_mem))
  trivial

noncomputable abbrev lo : List Str := looseW hd.view_1 [Str.ofString "ChanError", Str.ofString "has_break", Str.ofString "_law_for"]
noncomputable abbrev pg : Program := PySem.Challenge.rw_pf0071_01.prog
/-- a call of a def of the text, from a frame: what it hands back, and what it has made (tl) -/
noncomputable def Call (w : World) (mean : ExcName → Option Value) (mg mb : Str → Option Value) (need : Nat) (f : Addr) (vs : List Value) (news : List (Addr × Obj)) (Post : Value → List (Addr × Obj) → Prop) : Prop :=
  ∀ (dp un : Nat) (gd : Option (List Code)) (cn : Str) (cs : Scope) (a : Addr) (ccd : Value) (cl : List (Str × Addr)) (outer : List Env) (A₀ : Around) (base h₀ : Heap) (L : Addr) (m : Str → Option Value) (sH : Heap) (sG : Array GenState) (sD : Drawn) (sT : Nat) (sO : OsState) (Q E : Value → Shared → Prop),
    Below A₀ base outer h₀ → Fr h₀ L sH m → (hd.heap_1 w.params).In h₀ → News h₀ L sH news → Top hd.view_1 lo mean mg mb h₀ → cs.kind = .function → dp + need < recursionLimit → un + 8 * need < cLine →
    (∀ r tl h' tk', Fr h₀ L h' m → News h₀ L h' (tl ++ news) → (∀ p ∈ tl, ∀ q ∈ news, q.1 < p.1) → Post r tl → Q r { heap := h', gens := sG, drawn := sD, toks := tk', os := sO }) →
    wpAny (model PySem.Challenge.rw_pf0071_01.prog w) (ktrTop dp un gd cn cs L a ccd cl outer) (call (.ref f) vs) Q E { heap := sH, gens := sG, drawn := sD, toks := sT, os := sO }


theorem ite_no {c : Bool} {a b : Prop} (hc : c = false) (h : b) : if c = true then a else b := by rw [hc]; exact h
theorem ln5 : True := by
  (k_with "ite" => (refine ite_no (by first | (first
  | (simp only [beq_eq_false_iff_ne, ne_eq]; assumption)
  | (simp only [List.any_cons, List.any_nil, Bool.or_false, Bool.or_eq_false_iff, beq_eq_false_iff_ne, ne_eq]; refine ⟨?_, ?_, ?_⟩ <;> exact Ne.symm (by assumption))) | fail "no") ?_))
  (k_with "mem" => first | exact List.mem_cons_self | (refine List.mem_cons_of_mem _ ?_; first | ktr_member | k_mem))
  trivial

section
variable {w : World} {prog : Program} {A : Around} {E : Value → Shared → Prop} {Q : Flow → Shared → Prop} {h₀ h : Heap} {ge : Array GenState} {dr : Drawn} {tk : Nat} {os : OsState} {L a : Addr} {m : Str → Option Value} {cn : Str} {cs : Scope} {ccd : Value} {c k : Str} {t : Tok} {kk : Nat} {p1 p2 p3 p4 : Pos} {body rest : List Stmt}
/-- «if kind == c: ..», and kind is another text -/
theorem kind_no (F : Fr h₀ L h m) (hv : m (Str.ofString "kind") = some (.str k t)) (hk : cs.kind = .function) (hx : (envOf cn cs L a ccd).kindOf (Str.ofString "kind") = some .local) (hn : k ≠ c)
    (H : wpAny (model prog w) A (execs rest (envOf cn cs L a ccd)) Q E { heap := h, gens := ge, drawn := dr, toks := tk + 1, os := os }) :
    wpAny (model prog w) A (execs (.If (.Compare (.Name (Str.ofString "kind") p1) [.Eq] [.Constant (.str c) kk p2] p3) body [] p4 :: rest) (envOf cn cs L a ccd)) Q E { heap := h, gens := ge, drawn := dr, toks := tk, os := os } := by
  refine wpAny_execs_cons (wpAny_If (wpAny_isTrue_Compare1 (nameX_L (s := { heap := h, gens := ge, drawn := dr, toks := tk, os := os }) F hv (wpAny_Constant_str (PyProof.Rows.eq_str (wpAny_truthy_bool ?_))) hk hx (by decide)) ?_))
  · rw [beq_false_of_ne hn]
    exact wpAny_execs_nil H
  · rfl
end
theorem ln6 : True := by
  (k_with "execs cons" => (k_here; (with_reducible refine' kind_no (by first | (k_asm) | fail "no") (by first | (k_dflt (exact rfl)) | fail "no") (by first | (k_dflt (exact rfl)) | fail "no") (by first | (k_dflt (exact rfl)) | fail "no") (by first | (first | assumption | decide) | fail "no") ?_)))
  trivial

theorem news_sub {h₀ h : Heap} {L : Addr} {N N' : List (Addr × Obj)} (H : News h₀ L h N) (hs : ∀ p ∈ N', p ∈ N) : News h₀ L h N' := fun p hp => H p (hs p hp)
theorem bodies_one {news : List (Addr × Obj)} {v : Value} {b : Sts} (h : BodyIn news v b) : BodiesIn news [v] [b] := .cons h .nil
theorem bodies_two {news : List (Addr × Obj)} {v v' : Value} {b b' : Sts} (h : BodyIn news v b) (h' : BodyIn news v' b') : BodiesIn news [v, v'] [b, b'] := .cons h (.cons h' .nil)
theorem lt_one {a : Addr} {o : Obj} {news : List (Addr × Obj)} (h : AllLt a news) : ∀ p ∈ [(a, o)], ∀ q ∈ news, q.1 < p.1 := fun p hp q hq => by rw [List.mem_singleton.mp hp]; exact ktn_ltOf h q hq
theorem lt_two {a b : Addr} {o o' : Obj} {news : List (Addr × Obj)} (h : AllLt a news) (h' : AllLt b news) : ∀ p ∈ [(a, o), (b, o')], ∀ q ∈ news, q.1 < p.1 := fun p hp q hq => by
  rcases List.mem_cons.mp hp with rfl | hp
  · exact ktn_ltOf h q hq
  · rw [List.mem_singleton.mp hp]; exact ktn_ltOf h' q hq
theorem sub_left {a b : List (Addr × Obj)} : ∀ p ∈ b, p ∈ a ++ b := fun _ h => List.mem_append.mpr (.inr h)

theorem sub_cons {x : Addr × Obj} {a b : List (Addr × Obj)} (h : ∀ p ∈ b, p ∈ a) : ∀ p ∈ [x] ++ b, p ∈ x :: a := fun p hp => by
  rcases List.mem_cons.mp hp with rfl | hp
  · exact .head _
  · exact .tail _ (h p hp)
theorem sub_self {a : List (Addr × Obj)} : ∀ p ∈ a, p ∈ a := fun _ h => h
theorem sub_tail {x : Addr × Obj} {a b : List (Addr × Obj)} (h : ∀ p ∈ b, p ∈ a) : ∀ p ∈ b, p ∈ x :: a := fun p hp => .tail _ (h p hp)
theorem news_new {h₀ h h' : Heap} {L D : Addr} {o : Obj} {m : Str → Option Value} {news : List (Addr × Obj)} (F : Fr h₀ L h m) (N : News h₀ L h news) (hD : h.objs.size ≤ D) (hk : ∀ b o, h.get? b = some o → h'.get? b = some o) (hDo : h'.get? D = some o) :
    News h₀ L h' ((D, o) :: news) := fun p hp => by
  rcases List.mem_cons.mp hp with rfl | hp
  · have hn : h.get? D = none := Heap.get?_none_of_le hD
    refine ⟨hDo, fun e => ?_, ?_⟩
    · have := F.ns.lt; rw [← e] at this; exact Nat.lt_irrefl _ (Nat.lt_of_lt_of_le this hD)
    · cases q : h₀.get? D with
      | none => rfl
      | some o' => rw [F.keep _ _ q] at hn; cases hn
  · exact ⟨hk _ _ (N p hp).1, (N p hp).2⟩
theorem news_lt {h₀ h : Heap} {L D : Addr} {news : List (Addr × Obj)} (N : News h₀ L h news) (hD : h.objs.size ≤ D) : ∀ q ∈ news, q.1 < D := fun q hq => Nat.lt_of_lt_of_le (Heap.lt_size (N q hq).1) hD
noncomputable abbrev InnerPost (news : List (Addr × Obj)) (bs : List Sts) (r : Value) (tl : List (Addr × Obj)) : Prop := ∃ l vs n, r = .ref l ∧ (l, listOf vs.toArray n) ∈ tl ∧ BodiesIn (tl ++ news) vs bs

noncomputable def Mark9 : Prop := True
noncomputable def St.kind : St → Str
  | .ret => "return"
  | .fall => "fallthrough"
  | .ex _ => "expr"
  | .brk _ => "break"
  | .cont _ => "continue"
  | .for_ _ _ _ => "for"
  | .rng _ _ => "range"
  | .sw _ _ => "switch"
  | .cho _ _ => "choose"
  | .blk _ => "block"
  | .if1 _ => "if"
  | .if2 _ _ => "if"
theorem StIn.tup {news : List (Addr × Obj)} {v : Value} {st : St} (h : StIn news v st) : ∃ a n t r, v = .ref a ∧ (a, tupO (.str st.kind t :: r) n) ∈ news := by
  cases h with
  | blk h => obtain ⟨h, _, _⟩ := h; exact ⟨_, _, _, _, rfl, h⟩
  | _ h => exact ⟨_, _, _, _, rfl, h⟩
/-! ways to take a statement apart: the goal is named once -/
section
variable {news : List (Addr × Obj)} {a : Addr} {st : St} {P : Prop}
theorem BlkIn.E {b : Sts} (h : BlkIn news a b) (k : ∀ {k : Addr} {n n' : Nat} {t : Tok} {v : Value} {vs : List Value}, (a, tupO [.str "block" t, v, .ref k] n) ∈ news → (k, tupO vs n') ∈ news → StsIn news vs b → P) : P := by
  cases h with | mk h1 h2 h3 => exact k h1 h2 h3
theorem StIn.blkE (h : StIn news (.ref a) st) (he : (st.kind == Str.ofString "block") = true) (k : ∀ {b : Sts}, st = .blk b → BlkIn news a b → P) : P := by
  cases h <;> first | exact k rfl (by assumption) | exact absurd he (by dsimp only [St.kind]; decide)
theorem StIn.ifE (h : StIn news (.ref a) st) (he : (st.kind == Str.ofString "if") = true)
    (k1 : ∀ {k : Addr} {n : Nat} {t : Tok} {v1 v2 v3 : Value} {b : Sts}, st = .if1 b → (a, tupO [.str "if" t, v1, v2, v3, .ref k, .none] n) ∈ news → BlkIn news k b → P)
    (k2 : ∀ {k e : Addr} {n : Nat} {t : Tok} {v1 v2 v3 : Value} {b : Sts} {s : St}, st = .if2 b s → (a, tupO [.str "if" t, v1, v2, v3, .ref k, .ref e] n) ∈ news → BlkIn news k b → StIn news (.ref e) s → P) : P := by
  cases h <;> first | exact k1 rfl (by assumption) (by assumption) | exact k2 rfl (by assumption) (by assumption) (by assumption) | exact absurd he (by dsimp only [St.kind]; decide)
theorem StIn.forE (h : StIn news (.ref a) st) (he : (st.kind == Str.ofString "for") = true)
    (k : ∀ {k : Addr} {n : Nat} {t u : Tok} {i : Int} {lv v3 cv v5 : Value} {l : Option Str} {c : Bool} {b : Sts}, st = .for_ l c b → (a, tupO [.str "for" t, .int i u, lv, v3, cv, v5, .ref k] n) ∈ news → LabIn lv l → TestIn cv c → BlkIn news k b → P) : P := by
  cases h <;> first | exact k rfl (by assumption) (by assumption) (by assumption) (by assumption) | exact absurd he (by dsimp only [St.kind]; decide)
theorem StIn.rngE (h : StIn news (.ref a) st) (he : (st.kind == Str.ofString "range") = true)
    (k : ∀ {k : Addr} {n : Nat} {t u : Tok} {i : Int} {lv v3 v4 v5 : Value} {l : Option Str} {b : Sts}, st = .rng l b → (a, tupO [.str "range" t, .int i u, lv, v3, v4, v5, .ref k] n) ∈ news → LabIn lv l → BlkIn news k b → P) : P := by
  cases h <;> first | exact k rfl (by assumption) (by assumption) (by assumption) | exact absurd he (by dsimp only [St.kind]; decide)
/-- a statement with cases: its rows -/
inductive RowsAt (news : List (Addr × Obj)) (a k : Addr) : Prop
  | sw {n : Nat} {t : Tok} {v1 v2 v3 v4 : Value} : (a, tupO [.str "switch" t, v1, v2, v3, v4, .ref k] n) ∈ news → RowsAt news a k
  | cho {n : Nat} {t : Tok} {v1 v2 : Value} : (a, tupO [.str "choose" t, v1, v2, .ref k] n) ∈ news → RowsAt news a k
theorem RowsAt.mono {news' : List (Addr × Obj)} {k : Addr} (h : RowsAt news a k) (hs : ∀ p ∈ news, p ∈ news') : RowsAt news' a k := by
  cases h with
  | sw h => exact .sw (hs _ h)
  | cho h => exact .cho (hs _ h)
theorem StIn.casE (h : StIn news (.ref a) st) (he : ([Str.ofString "switch", Str.ofString "typeswitch", Str.ofString "choose"].any fun x => x == st.kind) = true)
    (k : ∀ {k : Addr} {n' : Nat} {vs : List Value} {cs : Cs}, st.inn = cs.bodies → RowsAt news a k → (k, tupO vs n') ∈ news → vs.length ≤ 8 → CsIn news vs cs → P) : P := by
  cases h <;> first | exact k rfl (.sw (by assumption)) (by assumption) (by assumption) (by assumption) | exact k rfl (.cho (by assumption)) (by assumption) (by assumption) (by assumption) | exact absurd he (by dsimp only [St.kind]; decide)
theorem St.inn_no (h1 : (st.kind == Str.ofString "block") = false) (h2 : (st.kind == Str.ofString "if") = false) (h3 : (st.kind == Str.ofString "for") = false) (h4 : (st.kind == Str.ofString "range") = false)
    (h5 : ([Str.ofString "switch", Str.ofString "typeswitch", Str.ofString "choose"].any fun x => x == st.kind) = false) : st.inn = [] := by
  cases st <;> first | rfl | exact absurd h1 (by dsimp only [St.kind]; decide) | exact absurd h2 (by dsimp only [St.kind]; decide) | exact absurd h3 (by dsimp only [St.kind]; decide) | exact absurd h4 (by dsimp only [St.kind]; decide) | exact absurd h5 (by dsimp only [St.kind]; decide)
end
theorem Call.use {w : World} {mean : ExcName → Option Value} {mg mb : Str → Option Value} {need : Nat} {f : Addr} {vs : List Value} {news : List (Addr × Obj)} {Post : Value → List (Addr × Obj) → Prop}
    (C : Call w mean mg mb need f vs news Post) {dp un : Nat} {gd : Option (List Code)} {cn : Str} {cs : Scope} {a : Addr} {ccd : Value} {cl : List (Str × Addr)} {outer : List Env} {A₀ : Around} {base h₀ : Heap} {L : Addr} {m : Str → Option Value} {sH : Heap} {sG : Array GenState} {sD : Drawn} {sT : Nat} {sO : OsState} {Q E : Value → Shared → Prop}
    (B : Below A₀ base outer h₀) (F : Fr h₀ L sH m) (X : (hd.heap_1 w.params).In h₀) (N : News h₀ L sH news) (T : Top hd.view_1 lo mean mg mb h₀) (hk : cs.kind = .function) (hd : dp + need < recursionLimit) (hu : un + 8 * need < cLine)
    (ret : ∀ r tl h' tk', Fr h₀ L h' m → News h₀ L h' (tl ++ news) → (∀ p ∈ tl, ∀ q ∈ news, q.1 < p.1) → Post r tl → Q r { heap := h', gens := sG, drawn := sD, toks := tk', os := sO }) :
    wpAny (model PySem.Challenge.rw_pf0071_01.prog w) (ktrTop dp un gd cn cs L a ccd cl outer) (call (.ref f) vs) Q E { heap := sH, gens := sG, drawn := sD, toks := sT, os := sO } := C _ _ _ _ _ _ _ _ _ _ _ _ _ _ _ _ _ _ _ _ _ B F X N T hk hd hu ret
theorem Call.go {w : World} {mean : ExcName → Option Value} {mg mb : Str → Option Value} {need : Nat} {f : Addr} {vs : List Value} {news : List (Addr × Obj)} {Post : Value → List (Addr × Obj) → Prop}
    {dp un : Nat} {gd : Option (List Code)} {cn : Str} {cs : Scope} {a : Addr} {ccd : Value} {cl : List (Str × Addr)} {outer : List Env} {A₀ : Around} {base h₀ : Heap} {L : Addr} {m : Str → Option Value} {sH : Heap} {sG : Array GenState} {sD : Drawn} {sT : Nat} {sO : OsState} {Q E : Value → Shared → Prop}
    (B : Below A₀ base outer h₀) (F : Fr h₀ L sH m) (X : (hd.heap_1 w.params).In h₀) (N : News h₀ L sH news) (T : Top hd.view_1 lo mean mg mb h₀) (hk : cs.kind = .function) (C : Call w mean mg mb need f vs news Post) (hd : dp + need < recursionLimit) (hu : un + 8 * need < cLine)
    (ret : ∀ r tl h' tk', Fr h₀ L h' m → News h₀ L h' (tl ++ news) → (∀ p ∈ tl, ∀ q ∈ news, q.1 < p.1) → Post r tl → Q r { heap := h', gens := sG, drawn := sD, toks := tk', os := sO }) :
    wpAny (model PySem.Challenge.rw_pf0071_01.prog w) (ktrTop dp un gd cn cs L a ccd cl outer) (call (.ref f) vs) Q E { heap := sH, gens := sG, drawn := sD, toks := sT, os := sO } := C _ _ _ _ _ _ _ _ _ _ _ _ _ _ _ _ _ _ _ _ _ B F X N T hk hd hu ret
theorem Call.go0 {w : World} {mean : ExcName → Option Value} {mg mb : Str → Option Value} {need : Nat} {f : Addr} {vs : List Value} {news : List (Addr × Obj)} {v : Value}
    {dp un : Nat} {gd : Option (List Code)} {cn : Str} {cs : Scope} {a : Addr} {ccd : Value} {cl : List (Str × Addr)} {outer : List Env} {A₀ : Around} {base h₀ : Heap} {L : Addr} {m : Str → Option Value} {sH : Heap} {sG : Array GenState} {sD : Drawn} {sT : Nat} {sO : OsState} {Q E : Value → Shared → Prop}
    (B : Below A₀ base outer h₀) (F : Fr h₀ L sH m) (X : (hd.heap_1 w.params).In h₀) (N : News h₀ L sH news) (T : Top hd.view_1 lo mean mg mb h₀) (hk : cs.kind = .function) (C : Call w mean mg mb need f vs news fun r tl => tl = [] ∧ r = v) (hd : dp + need < recursionLimit) (hu : un + 8 * need < cLine)
    (ret : ∀ h' tk', Fr h₀ L h' m → News h₀ L h' news → Q v { heap := h', gens := sG, drawn := sD, toks := tk', os := sO }) :
    wpAny (model PySem.Challenge.rw_pf0071_01.prog w) (ktrTop dp un gd cn cs L a ccd cl outer) (call (.ref f) vs) Q E { heap := sH, gens := sG, drawn := sD, toks := sT, os := sO } := C _ _ _ _ _ _ _ _ _ _ _ _ _ _ _ _ _ _ _ _ _ B F X N T hk hd hu fun _ _ h' tk' F' N' _ P => by
    obtain ⟨rfl, rfl⟩ := P
    exact ret h' tk' F' N'
theorem Call.goI {w : World} {mean : ExcName → Option Value} {mg mb : Str → Option Value} {need : Nat} {f : Addr} {vs : List Value} {news : List (Addr × Obj)} {bs : List Sts}
    {dp un : Nat} {gd : Option (List Code)} {cn : Str} {cs : Scope} {a : Addr} {ccd : Value} {cl : List (Str × Addr)} {outer : List Env} {A₀ : Around} {base h₀ : Heap} {L : Addr} {m : Str → Option Value} {sH : Heap} {sG : Array GenState} {sD : Drawn} {sT : Nat} {sO : OsState} {Q E : Value → Shared → Prop}
    (B : Below A₀ base outer h₀) (F : Fr h₀ L sH m) (X : (hd.heap_1 w.params).In h₀) (N : News h₀ L sH news) (T : Top hd.view_1 lo mean mg mb h₀) (hk : cs.kind = .function) (C : Call w mean mg mb need f vs news (InnerPost news bs)) (hd : dp + need < recursionLimit) (hu : un + 8 * need < cLine)
    (ret : ∀ l vs n tl h' tk', Fr h₀ L h' m → News h₀ L h' (tl ++ news) → (∀ p ∈ tl, ∀ q ∈ news, q.1 < p.1) → (l, listOf vs.toArray n) ∈ tl → BodiesIn (tl ++ news) vs bs → Q (.ref l) { heap := h', gens := sG, drawn := sD, toks := tk', os := sO }) :
    wpAny (model PySem.Challenge.rw_pf0071_01.prog w) (ktrTop dp un gd cn cs L a ccd cl outer) (call (.ref f) vs) Q E { heap := sH, gens := sG, drawn := sD, toks := sT, os := sO } := C _ _ _ _ _ _ _ _ _ _ _ _ _ _ _ _ _ _ _ _ _ B F X N T hk hd hu fun _ tl h' tk' F' N' l P => by
    obtain ⟨a, vs, n, rfl, hm, hB⟩ := P
    exact ret a vs n tl h' tk' F' N' l hm hB
theorem CsIn.get {news : List (Addr × Obj)} {vs : List Value} {c : Cs} {i : Nat} {v : Value} (h : CsIn news vs c) (e : vs[i]? = some v) : ∃ a k n n' dv d us b, v = .ref a ∧ (a, tupO [dv, .ref k] n) ∈ news ∧ TestIn dv d ∧ (k, tupO us n') ∈ news ∧ StsIn news us b ∧ c.bodies[i]? = some b := by
  refine CsIn.ind (P := fun vs c => ∀ i, vs[i]? = some v → ∃ a k n n' dv d us b, v = .ref a ∧ (a, tupO [dv, .ref k] n) ∈ news ∧ TestIn dv d ∧ (k, tupO us n') ∈ news ∧ StsIn news us b ∧ c.bodies[i]? = some b) (fun i e => none_at e) (fun h t k b ih i e => ?_) h i e
  cases i with
  | zero => cases e; exact ⟨_, _, _, _, _, _, _, _, rfl, h, t, k, b, rfl⟩
  | succ i => exact ih i e
theorem CsIn.length {news : List (Addr × Obj)} {vs : List Value} {c : Cs} (h : CsIn news vs c) : vs.length = c.bodies.length :=
  CsIn.ind (P := fun vs c => vs.length = c.bodies.length) rfl (fun _ _ _ _ ih => congrArg Nat.succ ih) h
theorem BodiesIn.snoc {news : List (Addr × Obj)} {v : Value} {b : Sts} {vs : List Value} {bs : List Sts} (h : BodiesIn news vs bs) (k : BodyIn news v b) : BodiesIn news (vs ++ [v]) (bs ++ [b]) := by
  induction h with
  | nil => exact .cons k .nil
  | cons h _ ih => exact .cons h ih
theorem BodiesIn.mono {news news' : List (Addr × Obj)} (hs : ∀ p ∈ news, p ∈ news') {vs : List Value} {bs : List Sts} (h : BodiesIn news vs bs) : BodiesIn news' vs bs := by
  induction h with
  | nil => exact .nil
  | cons h _ ih => exact .cons (h.mono hs) ih
theorem ln7 : True := by
  (k_with "room" => first | exact roomE (by assumption) | exact roomD (by assumption) (by first | decide | omega) | ((try simp only [depth_mark, depth_under_make, depth_under_kw, depth_in1, depth_deeper, depth_caller]); (try dsimp only [ktrTop]); omega))
  (k_with "eval ListComp" => (k_here; (with_unfolding_all refine' comp_eval (by first | (exact rfl) | fail "no") (by first | (exact rfl) | fail "no") (by first | (decide) | fail "no") (by first | (exact rfl) | fail "no") (by first | (decide) | fail "no") (by first | (exact rfl) | fail "no") ?_ (by first | ((intro _; rfl)) | fail "no"); k_whole)))
  trivial

theorem item0 {prog : Program} {w : World} {A : Around} {E : Value → Shared → Prop} {s : Shared} {value slice : PySem.Expr} {t : Addr} {x : Value} {r : List Value} {u : Tok} {Q : Value → Shared → Prop} (ht : IsTup s.heap t (x :: r).toArray) (h : Q x s)
    (hs : subscripted slice false (.ref t) (.int 0 u) = operate [.ref t, .int 0 u] (getItem (.ref t) (.int 0 u)) ) :
    wpAny (model prog w) A (subscriptTail value slice (.ref t) (.int 0 u)) Q E s := item_tupleT ht (by decide) (by decide) (j := 0) (by simp [seqIndex?]) rfl h hs
theorem ln8 : True := by
  (k_with "subscriptTail" => (k_here; (with_reducible show wpAny _ _ (subscriptTail _ _ (Value.ref _) (Value.int 0 _)) _ _ _); k_dflt (refine' item0 (by first | (exact News.isTup (by k_asm) (by k_mem)) | fail "no") ?_ (by first | (with_unfolding_all rfl) | fail "no"); k_whole)))
  trivial

section
variable {w : World} {mean : ExcName → Option Value} {mg mb : Str → Option Value} {news : List (Addr × Obj)}
set_option maxRecDepth 100000 in
set_option maxHeartbeats 8000000 in
theorem case_rows_spec {a₁ k₁ : Addr} (R : RowsAt news a₁ k₁) : Call w mean mg mb 1 56 [.ref a₁] news fun r tl => tl = [] ∧ r = .ref k₁ := by
  intro dp un gd cn cs a ccd cl outer A₀ base h₀ L m sH sG sD sT sO Q E B F X N T hk hdp hun ret
  cases R
  all_goals (
    refine wpAny_call ?_
    k_dflt ktr_enter
    k_steps
    exact ret _ [] _ _ (by assumption) (news_sub (by assumption) (by first | exact sub_self | exact sub_tail sub_self)) (fun _ h => (nomatch h)) ⟨rfl, rfl⟩)
theorem ln9 : True := by
  (k_with "subscriptTail Name Constant ref int" => ((rename Mark9 => lM9); (first | (with_reducible show wpAny _ _ (subscriptTail _ _ (Value.ref _) (Value.int 2 _)) _ _ _) | (with_reducible show wpAny _ _ (subscriptTail _ _ (Value.ref _) (Value.int 4 _)) _ _ _) | (with_reducible show wpAny _ _ (subscriptTail _ _ (Value.ref _) (Value.int 5 _)) _ _ _) | (with_reducible show wpAny _ _ (subscriptTail _ _ (Value.ref _) (Value.int 6 _)) _ _ _)); refine Held.out ?_))
  (k_with "call ref" => (k_here; (with_reducible show wpAny _ _ (call (Value.ref 56) _) _ _ _); refine Held.out ?_))
  trivial

set_option maxRecDepth 100000 in
set_option maxHeartbeats 8000000 in
theorem inner_lists_spec {v : Value} {st : St} (R : StIn news v st) : Call w mean mg mb 3 61 [v] news (InnerPost news st.inn) := by
  intro dp un gd cn cs a ccd cl outer A₀ base h₀ L m sH sG sD sT sO Q E B F X N T hk hdp hun ret
  obtain ⟨a₁, n₁, t₁, r₁, rfl, g⟩ := R.tup
  have mk9 : Mark9 := trivial
  refine wpAny_call ?_
  k_dflt ktr_enter
  k_steps
  · rename (St.kind _ == Str.ofString "block") = true => he
    refine Held.intro ?_
    try k_fold
    rename Mark9 => mk8
    clear mk8 g
    refine StIn.blkE R he ?_
    intro _ e1 hB
    refine BlkIn.E hB ?_
    intro _ _ _ _ _ _ hb1 hb2 hb3
    k_steps
    refine ret _ [(_, listOf #[.ref _] 0)] _ _ (by assumption) (news_sub (by assumption) (sub_cons sub_self)) (lt_one (by first | assumption | exact allLt_of (by assumption) | tbn_find)) ?_
    rw [e1]
    exact ⟨_, [_], _, rfl, .head _, bodies_one (.mk (.tail _ hb2) (StsIn.mono (sub_tail sub_self) hb3))⟩
  · rename (St.kind _ == Str.ofString "if") = true => he
    refine Held.intro ?_
    try k_fold
    rename Mark9 => mk8
    clear mk8 g
    refine StIn.ifE R he ?_ ?_
    · intro _ _ _ _ _ _ _ e1 h hB
      refine BlkIn.E hB ?_
      intro _ _ _ _ _ _ hb1 hb2 hb3
      k_steps
      refine ret _ [(_, listOf #[.ref _] 0)] _ _ (by assumption) (news_sub (by assumption) (sub_cons (sub_tail (sub_tail sub_self)))) (lt_one (by first | assumption | exact allLt_of (by assumption) | tbn_find)) ?_
      rw [e1]
      exact ⟨_, [_], _, rfl, .head _, bodies_one (.mk (.tail _ hb2) (StsIn.mono (sub_tail sub_self) hb3))⟩
    · intro _ _ _ _ _ _ _ _ _ e1 h hB hE
      refine BlkIn.E hB ?_
      intro _ _ _ _ _ _ hb1 hb2 hb3
      k_steps
      refine ret _ [(_, listOf #[.ref _, .ref _] 0), (_, tupO [.ref _] 0)] _ _ (by assumption) (news_sub (by assumption) (sub_cons (sub_tail (sub_cons (sub_tail sub_self))))) (lt_two (by first | assumption | tbn_find) (by first | assumption | tbn_find)) ?_
      rw [e1]
      exact ⟨_, [_, _], _, rfl, .head _, bodies_two (.mk (.tail _ (.tail _ hb2)) (StsIn.mono (sub_tail (sub_tail sub_self)) hb3)) (.mk (.tail _ (.head _)) (.cons (StIn.mono (sub_tail (sub_tail sub_self)) hE) .nil))⟩
  · rename (St.kind _ == Str.ofString "for") = true => he
    refine Held.intro ?_
    try k_fold
    rename Mark9 => mk8
    clear mk8 g
    refine StIn.forE R he ?_
    intro _ _ _ _ _ _ _ _ _ _ _ _ e1 h hl ht hB
    refine BlkIn.E hB ?_
    intro _ _ _ _ _ _ hb1 hb2 hb3
    k_steps
    refine ret _ [(_, listOf #[.ref _] 0)] _ _ (by assumption) (news_sub (by assumption) (sub_cons sub_self)) (lt_one (by first | assumption | exact allLt_of (by assumption) | tbn_find)) ?_
    rw [e1]
    exact ⟨_, [_], _, rfl, .head _, bodies_one (.mk (.tail _ hb2) (StsIn.mono (sub_tail sub_self) hb3))⟩
  · rename (St.kind _ == Str.ofString "range") = true => he
    refine Held.intro ?_
    try k_fold
    rename Mark9 => mk8
    clear mk8 g
    refine StIn.rngE R he ?_
    intro _ _ _ _ _ _ _ _ _ _ _ e1 h hl hB
    refine BlkIn.E hB ?_
    intro _ _ _ _ _ _ hb1 hb2 hb3
    k_steps
    refine ret _ [(_, listOf #[.ref _] 0)] _ _ (by assumption) (news_sub (by assumption) (sub_cons sub_self)) (lt_one (by first | assumption | exact allLt_of (by assumption) | tbn_find)) ?_
    rw [e1]
    exact ⟨_, [_], _, rfl, .head _, bodies_one (.mk (.tail _ hb2) (StsIn.mono (sub_tail sub_self) hb3))⟩
  · rename (List.any _ _) = true => he
    rename Mark9 => mk8
    clear mk8 g
    refine StIn.casE R he ?_
    intro k₁ n' vs cs₁ e1 hR hk₁ h8 hC
    rename Fr _ _ _ _ => F9
    rename News _ _ _ _ => N9
    rename Below _ _ _ _ => B9
    rename Top _ _ _ _ _ _ => T9
    rename Frag.In _ _ => X9
    refine Held.intro ?_
    try k_fold
    refine Call.go0 B9 F9 X9 N9 T9 (by first | exact rfl | assumption) (case_rows_spec (hR.mono (by first | exact sub_self | exact sub_tail sub_self))) (by k_room) (by (first | exact roomU (by assumption) (by first | decide | omega) | exact roomV (by assumption) (by first | decide | omega) | ((try simp only [units_in1, units_deeper, Around.mark_units, units_caller]); (try dsimp only [ktrTop]); omega))) ?_
    intro h9 tk9 F8 N8
    clear F9 N9
    k_steps
    rename Fr _ _ _ _ => F9
    rename News _ _ _ _ => N9
    have N7 : News _ _ _ news := news_sub N9 (by first | exact sub_self | exact sub_tail sub_self)
    refine Held.intro ⟨k₁, vs, fun i ys tl => tl = [] ∧ BodiesIn news ys (cs₁.bodies.take i), rfl, .inl ⟨_, (N7 (k₁, tupO vs n') hk₁).1, rfl, n', rfl⟩, Nat.le_trans h8 (by decide), ⟨rfl, .nil⟩, ?_, ?_⟩
    · intro C i v ys tl s₃ mC E' hv hCs hG hn hm hkp ht
      obtain ⟨a', k', m1, m2, dv, d, us, b, rfl, h1, h2, h3, h4, h5⟩ := hC.get hv
      refine wpAny_pure (Held.intro ⟨Keeps.rfl' _, ?_⟩)
      rw [if_pos rfl]
      have F8 := frInComp hn hkp hCs
      have N8 := News.grown N7 hkp
      try k_fold
      k_steps
      exact Held.intro ⟨⟨s₃.heap, _, rfl, fun _ _ e => e⟩, [], fun _ h => (nomatch h), hG.1, by rw [List.take_add_one, h5]; exact hG.2.snoc (.mk h3 h4)⟩
    · intro D h' tk ys tl k hD hG hkp hDo ht
      have F8 := Fr.keeps F9 hkp
      have N8 := news_new F9 N7 hD hkp hDo
      have l9 := news_lt N7 hD
      clear ht hDo N7 N9 F9
      try k_fold
      k_steps
      refine ret _ [(D, listOf ys.toArray k)] _ _ (by assumption) (by assumption) (lt_one (allLt_of l9)) ?_
      rw [e1]
      exact ⟨_, ys, _, rfl, .head _, BodiesIn.mono (sub_tail sub_self) (by rw [hC.length, List.take_length] at hG; exact hG.2)⟩
  · rename (St.kind _ == Str.ofString "block") = false => h1
    rename (St.kind _ == Str.ofString "if") = false => h2
    rename (St.kind _ == Str.ofString "for") = false => h3
    rename (St.kind _ == Str.ofString "range") = false => h4
    rename (List.any _ _) = false => h5
    refine ret _ [(_, listOf #[] 0)] _ _ (by assumption) (news_sub (by assumption) (sub_cons (sub_tail sub_self))) (lt_one (by first | assumption | tbn_find)) ?_
    rw [St.inn_no h1 h2 h3 h4 h5]
    exact ⟨_, [], _, rfl, .head _, .nil⟩
end
end
section
theorem ln10 : True := by
  k_with_none
  (k_with "room" => first | exact roomE (by assumption) | exact roomD (by assumption) (by first | decide | omega) | ((try simp only [depth_mark, depth_under_make, depth_under_kw, depth_in1, depth_deeper, depth_caller]); (try dsimp only [ktrTop]); omega))
  (k_with "mem" => first | exact List.mem_cons_self | (refine List.mem_cons_of_mem _ ?_; first | ktr_member | k_mem))
  trivial


/-! ## has_break -/
mutual
noncomputable def St.sz : St → Nat
  | .ret | .fall | .ex _ | .brk _ | .cont _ => 1
  | .for_ _ _ b => b.sz + 1
  | .rng _ b => b.sz + 1
  | .sw _ cs => cs.sz + 1
  | .cho _ cs => cs.sz + 1
  | .blk b => b.sz + 1
  | .if1 b => b.sz + 1
  | .if2 b e => b.sz + e.sz + 2
noncomputable def Sts.sz : Sts → Nat
  | .nil => 0
  | .cons s r => s.sz + r.sz
noncomputable def Cs.sz : Cs → Nat
  | .nil => 0
  | .cons _ b r => b.sz + r.sz
end
mutual
noncomputable def hb1 : St → Option Str → Bool → Bool
  | .ret, _, _ | .fall, _, _ | .ex _, _, _ | .cont _, _, _ => false
  | .brk none, _, near => near
  | .brk (some x), l, _ => l == some x
  | .for_ _ _ b, l, _ => hbs b l false
  | .rng _ b, l, _ => hbs b l false
  | .sw _ cs, l, _ => hbC cs l false
  | .cho _ cs, l, _ => hbC cs l false
  | .blk b, l, near => hbs b l near
  | .if1 b, l, near => hbs b l near
  | .if2 b e, l, near => hbs b l near || hb1 e l near
noncomputable def hbs : Sts → Option Str → Bool → Bool
  | .nil, _, _ => false
  | .cons s r, l, near => hb1 s l near || hbs r l near
noncomputable def hbC : Cs → Option Str → Bool → Bool
  | .nil, _, _ => false
  | .cons _ b r, l, near => hbs b l near || hbC r l near
end
noncomputable def St.isBrk : St → Bool
  | .brk _ => true
  | _ => false
/-- left by a break -/
noncomputable def St.left : St → Bool
  | .for_ .. | .rng .. | .sw .. | .cho .. => true
  | _ => false
noncomputable def brkHere : St → Option Str → Bool → Bool
  | .brk none, _, near => near
  | .brk (some x), l, _ => l == some x
  | _, _, _ => false
theorem hbC_any (l : Option Str) (near : Bool) : ∀ c : Cs, hbC c l near = c.bodies.any fun b => hbs b l near
  | .nil => rfl
  | .cons _ b r => by rw [hbC, Cs.bodies, List.any_cons, hbC_any l near r]
theorem hb1_eq (s : St) (l : Option Str) (near : Bool) : hb1 s l near = (brkHere s l near || s.inn.any fun b => hbs b l (near && !s.left)) := by
  cases s <;> simp [hb1, brkHere, St.inn, St.left, hbC_any, hbs]
  rename_i l'; cases l' <;> simp [hb1]
theorem hbs_any (l : Option Str) (near : Bool) : ∀ b : Sts, hbs b l near = b.toList.any fun s => hb1 s l near
  | .nil => rfl
  | .cons s r => by rw [hbs, Sts.toList, List.any_cons, hbs_any l near r]
theorem sz_toList : ∀ {b : Sts} {s : St}, s ∈ b.toList → s.sz ≤ b.sz
  | .cons s r, s', h => by
    rcases List.mem_cons.mp h with rfl | h
    · exact Nat.le_add_right _ _
    · exact Nat.le_trans (sz_toList h) (Nat.le_add_left _ _)
theorem sz_bodies : ∀ {c : Cs} {b : Sts}, b ∈ c.bodies → b.sz ≤ c.sz
  | .cons _ b r, b', h => by
    rcases List.mem_cons.mp h with rfl | h
    · exact Nat.le_add_right _ _
    · exact Nat.le_trans (sz_bodies h) (Nat.le_add_left _ _)
theorem sz_inn {s : St} {b : Sts} (h : b ∈ s.inn) : b.sz < s.sz := by
  cases s with
  | ret | fall | ex _ | brk _ | cont _ => exact (nomatch h)
  | for_ l c b' => rw [List.mem_singleton.mp h, St.sz]; exact Nat.lt_succ_self _
  | rng l b' => rw [List.mem_singleton.mp h, St.sz]; exact Nat.lt_succ_self _
  | sw l cs => rw [St.sz]; exact Nat.lt_succ_of_le (sz_bodies h)
  | cho l cs => rw [St.sz]; exact Nat.lt_succ_of_le (sz_bodies h)
  | blk b' => rw [List.mem_singleton.mp h, St.sz]; exact Nat.lt_succ_self _
  | if1 b' => rw [List.mem_singleton.mp h, St.sz]; exact Nat.lt_succ_self _
  | if2 b' e =>
    rw [St.sz]
    rcases List.mem_cons.mp h with rfl | h
    · omega
    · rw [List.mem_singleton.mp h, Sts.sz, Sts.sz]; omega
end
section
set_option tactic.hygienic false
theorem ln11 : True := by
  k_with_none
  (k_with "room" => first | exact roomE (by assumption) | exact roomD (by assumption) (by first | decide | omega) | ((try simp only [depth_mark, depth_under_make, depth_under_kw, depth_in1, depth_deeper, depth_caller]); (try dsimp only [ktrTop]); omega))
  (k_with "mem" => first | exact List.mem_cons_self | (refine List.mem_cons_of_mem _ ?_; first | ktr_member | k_mem))
  trivial

theorem ln12 : True := by
  (k_with "room" => first | exact roomE (by assumption) | exact roomD (by assumption) (by first | decide | omega) | ((try simp only [depth_mark, depth_under_make, depth_under_kw, depth_in1, depth_deeper, depth_caller]); (try dsimp only [ktrTop]); omega))
  (k_with "mem" => first | exact List.mem_cons_self | (refine List.mem_cons_of_mem _ ?_; first | ktr_member | k_mem))
  (k_with "enter" => (refine' code_def (by first | (k_asm) | fail "no") (by first | (k_asm) | fail "no") (by first | (k_asm) | fail "no") (by first | (k_asm) | fail "no") (by first | (k_asm) | fail "no") (by first | (exact rfl) | fail "no") (by first | (exact rfl) | fail "no") (by first | (first | exact rfl | assumption) | fail "no") (by first | (k_is) | fail "no") (by first | (k_is) | fail "no") (by first | (k_room) | fail "no") (by first | (first | exact BindsTo.of_eq rfl | exact binds_K (by k_in) rfl (by k_is) rfl rfl rfl) | fail "no") (by first | (exact locs rfl) | fail "no") ?_ (by first | (exact rfl) | fail "no") (by first | (exact rfl) | fail "no") (by first | (exact rfl) | fail "no") (by first | (decide) | fail "no"); k_whole; intro g' L' h' FG' F' N' B' X' T'; (try dsimp only); (try k_fold); (try (refine (let en9 := _; let ar9 := Around.deeper _ en9; (?_ : wpAny _ ar9 (execs _ en9) _ _ _))))))
  (k_with "exec For Name Name cons nil" => (k_here; (rename Fr _ _ _ _ => lF'); (with_unfolding_all refine' For_invVF lF' (by first | (exact rfl) | fail "no") (by first | (exact rfl) | fail "no") ?_; k_whole)))
  (k_with "exec For Name Call cons nil" => (k_here; (rename Fr _ _ _ _ => lF'); (with_unfolding_all refine' For_invVF lF' (by first | (exact rfl) | fail "no") (by first | (exact rfl) | fail "no") ?_; k_whole)))
  (k_with "pyIter ref" => (refine Held.out ?_))
  (k_with "subscriptTail" => (k_here; (with_reducible show wpAny _ _ (subscriptTail _ _ (Value.ref _) (Value.int 0 _)) _ _ _); k_dflt (refine' item0 (by first | (exact News.isTup (by k_asm) (by k_mem)) | fail "no") ?_ (by first | (with_unfolding_all rfl) | fail "no"); k_whole)))
  (k_with "call ref" => (k_here; (with_reducible show wpAny _ _ (call (Value.ref 61) _) _ _ _); (try k_fold); k_dflt (refine' Call.goI (by first | (k_asm) | fail "no") (by first | (k_asm) | fail "no") (by first | (k_asm) | fail "no") (by first | (k_asm) | fail "no") (by first | (k_asm) | fail "no") (by first | (first | exact rfl | assumption) | fail "no") (inner_lists_spec (by first | (assumption) | fail "no")) (by first | (k_room) | fail "no") (by first | ((first | exact roomU (by assumption) (by first | decide | omega) | exact roomV (by assumption) (by first | decide | omega) | ((try simp only [units_in1, units_deeper, Around.mark_units, units_caller]); (try dsimp only [ktrTop]); omega))) | fail "no") ?_); intro li9 vs9 ni9 tl9 h9 tk9 F9 N9 l9 mi9 hB9; (try k_unfold); (try dsimp only); (try k_fold)))
  trivial

theorem StIn.view {news : List (Addr × Obj)} {v : Value} {st : St} (h : StIn news v st) :
    (∃ a n t i u lv l, v = .ref a ∧ st = .brk l ∧ (a, tupO [.str "break" t, .int i u, lv] n) ∈ news ∧ LabIn lv l) ∨
    ∃ a n k t r, v = .ref a ∧ (a, tupO (.str k t :: r) n) ∈ news ∧ k ≠ ("break" : Str) ∧ (∀ l near, brkHere st l near = false) ∧ ([Str.ofString "for", Str.ofString "range", Str.ofString "switch", Str.ofString "typeswitch", Str.ofString "choose"].any fun x => x == k) = st.left := by
  cases h with
  | brk h hl => exact .inl ⟨_, _, _, _, _, _, _, rfl, rfl, h, hl⟩
  | blk h => obtain ⟨h, _, _⟩ := h; exact .inr ⟨_, _, _, _, _, rfl, h, by decide, fun _ _ => rfl, by simp only [St.left]; decide⟩
  | _ h => exact .inr ⟨_, _, _, _, _, rfl, h, by decide, fun _ _ => rfl, by simp only [St.left]; decide⟩

noncomputable def HbAt (w : World) (mean : ExcName → Option Value) (mg mb : Str → Option Value) (b : Sts) : Prop :=
  ∀ (l : Option Str) (lv : Value) (near : Bool) (k : Addr) (n : Nat) (vs : List Value) (news : List (Addr × Obj)), LabIn lv l → (k, tupO vs n) ∈ news → StsIn news vs b →
      Call w mean mg mb (3 * b.sz + 5) 69 [.ref k, lv, .bool near] news fun r tl => tl = [] ∧ r = .bool (hbs b l near)
theorem HbAt.use {w : World} {mean : ExcName → Option Value} {mg mb : Str → Option Value} {b : Sts} (h : HbAt w mean mg mb b) {l : Option Str} {lv : Value} {near : Bool} {k : Addr} {n : Nat} {vs : List Value} {news : List (Addr × Obj)} (h1 : LabIn lv l) (h2 : (k, tupO vs n) ∈ news) (h3 : StsIn news vs b) :
    Call w mean mg mb (3 * b.sz + 5) 69 [.ref k, lv, .bool near] news fun r tl => tl = [] ∧ r = .bool (hbs b l near) := h _ _ _ _ _ _ _ h1 h2 h3
theorem ln13 : True := by
  (k_with "call ref" => (k_here; (with_reducible show wpAny _ _ (call (Value.ref 69) _) _ _ _); (try k_fold); k_dflt (refine' Call.go0 (by first | (k_asm) | fail "no") (by first | (k_asm) | fail "no") (by first | (k_asm) | fail "no") (by first | (k_asm) | fail "no") (by first | (k_asm) | fail "no") (by first | (first | exact rfl | assumption) | fail "no") (HbAt.use (by first | (assumption) | fail "no") (by first | (assumption) | fail "no") (by first | (assumption) | fail "no") (by first | (assumption) | fail "no")) (by first | (k_room) | fail "no") (by first | ((first | exact roomU (by assumption) (by first | decide | omega) | exact roomV (by assumption) (by first | decide | omega) | ((try simp only [units_in1, units_deeper, Around.mark_units, units_caller]); (try dsimp only [ktrTop]); omega))) | fail "no") ?_); intro h9 tk9 F9 N9; (try k_unfold); (try dsimp only); (try k_fold)))
  (k_with "compareOp NotIn str ref" => (k_here; (with_reducible show wpAny _ _ (compareOp CmpOp.NotIn (Value.str _ _) (Value.ref _)) _ _ _); (with_unfolding_all refine' notin_tuple_strs (by first | ((refine' tupK (by first | (k_in) | fail "no") (by first | (k_dflt k_is) | fail "no"))) | fail "no") (by first | (repeat constructor) | fail "no") ?_; k_whole)))
  (k_with "ite" => (refine ite_no (by first | ((simp only [beq_eq_false_iff_ne, ne_eq]; assumption)) | fail "no") ?_))
  (k_with "TurnPost" => (dsimp only [TurnPost]))
  trivial

theorem step_pre {α : Type} {l : List α} {P : α → Prop} {i : Nat} (h : ∀ j x, j < i → l[j]? = some x → P x) {y : α} (hy : l[i]? = some y) (hp : P y) : ∀ j x, j < i + 1 → l[j]? = some x → P x := fun j x hj e => by
  rcases Nat.lt_succ_iff_lt_or_eq.mp hj with q | rfl
  · exact h j x q e
  · rw [hy] at e; exact Option.some.inj e ▸ hp
theorem all_pre {α : Type} {l : List α} {P : α → Prop} {n : Nat} (h : ∀ j x, j < n → l[j]? = some x → P x) (hn : l.length ≤ n) : ∀ x ∈ l, P x := fun x hx => by
  obtain ⟨j, hj, e⟩ := List.getElem_of_mem hx
  exact h j x (Nat.lt_of_lt_of_le hj hn) (by rw [List.getElem?_eq_getElem hj, e])
theorem hb_true {b b' : Sts} {st : St} {i j : Nat} {l : Option Str} {near : Bool} (h : b.toList[i]? = some st) (h' : st.inn[j]? = some b') (e : hbs b' l (near && !st.left) = true) : hbs b l near = true := by
  rw [hbs_any, List.any_eq_true]
  refine ⟨st, List.mem_of_getElem? h, ?_⟩
  rw [hb1_eq, Bool.or_eq_true]
  exact .inr (List.any_eq_true.mpr ⟨b', List.mem_of_getElem? h', e⟩)
theorem hb_true_brk {b : Sts} {st : St} {i : Nat} {l : Option Str} {near : Bool} (h : b.toList[i]? = some st) (e : brkHere st l near = true) : hbs b l near = true := by
  rw [hbs_any, List.any_eq_true]
  exact ⟨st, List.mem_of_getElem? h, by rw [hb1_eq, e]; rfl⟩
theorem hb1_false {st : St} {l : Option Str} {near : Bool} (h : brkHere st l near = false) (h' : ∀ b' ∈ st.inn, hbs b' l (near && !st.left) = false) : hb1 st l near = false := by
  rw [hb1_eq, h, Bool.false_or, List.any_eq_false]
  intro b hb; rw [h' b hb]; decide
theorem brk_yes {x y : Str} {near : Bool} (h : (x == y) = true) : brkHere (.brk (some x)) (some y) near = true := by
  rw [beq_iff_eq.mp h]; exact beq_self_eq_true _
theorem brk_no {x y : Str} {near : Bool} (h : (x == y) = false) : brkHere (.brk (some x)) (some y) near = false := by
  show (some y == some x) = false
  rw [beq_eq_false_iff_ne]
  intro e; cases e; rw [beq_self_eq_true] at h; cases h
theorem hbs_false {b : Sts} {l : Option Str} {near : Bool} (h : ∀ st ∈ b.toList, hb1 st l near = false) : hbs b l near = false := by
  rw [hbs_any, List.any_eq_false]
  intro st hs; rw [h st hs]; decide

/-- a cut behind a statement that stores one name: what follows is walked once -/
theorem cut_put {M : Model} {A : Around} {env : Env} {st : Stmt} {rest : List Stmt} {Q : Flow → Shared → Prop} {E : Value → Shared → Prop} {s : Shared} {g h : Heap} {L : Addr} {m : Str → Option Value} {led : List (Addr × Obj)} {sG : Array GenState} {sD : Drawn} {sO : OsState} {x : Str} {v : Value} (_F : Fr g L h m) (_N : News g L h led)
    (h1 : wpAny M A (exec st env) (fun f s' => match f with | .next => Held (∃ h' tk', s' = { heap := h', gens := sG, drawn := sD, toks := tk', os := sO } ∧ Fr g L h' (fun y => if y = x then some v else m y) ∧ News g L h' led) | f => Q f s') E s)
    (h2 : ∀ h' tk', Fr g L h' (fun y => if y = x then some v else m y) → News g L h' led → wpAny M A (execs rest env) Q E { heap := h', gens := sG, drawn := sD, toks := tk', os := sO }) :
    wpAny M A (execs (st :: rest) env) Q E s := wpAny_execs_cons (wpAny_mono h1 (fun f s' => by
      cases f with
      | next => exact fun ⟨h', tk', e, F, N⟩ => e ▸ h2 h' tk' F N
      | _ => exact id) fun _ _ h => h)
theorem ln14 : True := by
  (k_with "execs cons" => ((rename Mark9 => lM9); (with_reducible show wpAny _ _ (execs (Stmt.Assign [PySem.Expr.Name (Str.ofString "near") _] _ _ :: _) _) _ _ _); refine Held.out ?_))
  trivial

/-- has_break's names at its start -/
noncomputable abbrev hbB (k : Addr) (lv : Value) (near : Bool) : List (Str × Value) := [(Str.ofString "statements", .ref k), (Str.ofString "label", lv), (Str.ofString "is_near", .bool near)]
/-- these arguments give these names -/
noncomputable def HbBinds (w : World) (us : List Value) (k : Addr) (lv : Value) (near : Bool) : Prop :=
  ∀ (s : Shared), (hd.heap_1 w.params).In s.heap → ∀ (oc : Value) (od : Option Addr) (fd : FuncData) (osl : Array (Option Value)), (hd.heap_1 w.params).lookup 69 = some ⟨oc, od, .func fd, osl⟩ → BindsTo s fd ⟨us, []⟩ (hbB k lv near)
theorem look_fun {K : Frag} {f : Addr} {oc oc' : Value} {od od' : Option Addr} {fd fd' : FuncData} {osl osl' : Array (Option Value)} {P : FuncData → Prop} (h0 : K.lookup f = some ⟨oc, od, .func fd, osl⟩) (h : K.lookup f = some ⟨oc', od', .func fd', osl'⟩) (p : P fd) : P fd' := by
  have e := Option.some.inj (h0.symm.trans h)
  injection e with _ _ e3 _
  injection e3 with e4
  exact e4 ▸ p
theorem hb_binds3 {w : World} {k : Addr} {lv : Value} {near : Bool} : HbBinds w [.ref k, lv, .bool near] k lv near := fun s X oc od fd osl h => by
  refine' look_fun (P := fun fd => BindsTo s fd ⟨[.ref k, lv, .bool near], []⟩ (hbB k lv near)) ?a h ?b
  (case a => k_is)
  (case b => exact binds_K X rfl (by k_is) rfl rfl rfl)
theorem hb_binds2 {w : World} {k : Addr} {lv : Value} : HbBinds w [.ref k, lv] k lv true := fun s X oc od fd osl h => by
  refine' look_fun (P := fun fd => BindsTo s fd ⟨[.ref k, lv], []⟩ (hbB k lv true)) ?a h ?b
  (case a => k_is)
  (case b => exact binds_K X rfl (by k_is) rfl rfl rfl)
section
variable {w : World} {mean : ExcName → Option Value} {mg mb : Str → Option Value}
set_option maxRecDepth 100000 in
set_option maxHeartbeats 8000000 in
theorem has_break_core (b : Sts) (IH : ∀ b' : Sts, b'.sz < b.sz → HbAt w mean mg mb b') {us : List Value} {l : Option Str} {lv : Value} {near : Bool} {k : Addr} {n : Nat} {vs : List Value} {news : List (Addr × Obj)}
    (hU : HbBinds w us k lv near) (hl : LabIn lv l) (hk₁ : (k, tupO vs n) ∈ news) (hb : StsIn news vs b) : Call w mean mg mb (3 * b.sz + 5) 69 us news fun r tl => tl = [] ∧ r = .bool (hbs b l near) := by
  intro dp un gd cn cs a ccd cl outer A₀ base h₀ L m sH sG sD sT sO Q E B F X N T hk hdp hun ret
  refine wpAny_call ?_
  k_dflt (refine' code_def (binds := hbB k lv near) ?k1 ?k2 ?k3 ?k4 ?k5 ?kA ?kF ?kK ?k6 ?k7 ?k8 ?k9 ?kB ?_ ?c2 ?c3 ?c4 ?c5; (case kA => exact rfl); (case kF => exact rfl); (case kK => first | exact rfl | assumption); (case k1 => k_asm); (case k2 => k_asm); (case k3 => k_asm); (case k4 => k_asm); (case k5 => k_asm); (case k6 => k_is); (case k7 => k_is); (case k8 => k_room); (case k9 => exact hU _ (by k_in) _ _ _ _ (by k_is)); (case c5 => decide); (case kB => exact locs rfl); (case c2 => exact rfl); (case c3 => exact rfl); (case c4 => exact rfl); k_whole; intro g' L' h' FG' F' N' B' X' T'; (try dsimp only); (try k_fold); (try (refine (let en9 := _; let ar9 := Around.deeper _ en9; (?_ : wpAny _ ar9 (execs _ en9) _ _ _)))))
  k_steps
  refine Held.intro ?_
  try k_fold
  refine (iter_tup ["statement", "near", "inner"] (fun i nx => nx = news ∧ ∀ j st, j < i → b.toList[j]? = some st → hb1 st l near = false) (by exact rfl) (fun i nx h => by rw [h.1]; exact hk₁) (by assumption) (by assumption) ⟨rfl, fun _ _ h => absurd h (Nat.not_lt_zero _)⟩ ?_ ?_)
  · intro i v u nx h tk own hv hP9 hoff F₁ N₁
    try k_fold
    obtain ⟨rfl, hpre⟩ := hP9
    obtain ⟨st, hst, hS⟩ := hb.get hv
    have hS' : StIn (own ++ nx) v st := StIn.mono sub_left hS
    rcases hS.view with ⟨a₁, n₁, t₁, i₁, u₁, lv₁, l₁, rfl, rfl, hm, hl₁⟩ | ⟨a₁, n₁, k₁, t₁, r₁, rfl, hm, hne, hbr, hleft⟩
    · have hm' := sub_left (a := own) _ hm
      cases hl₁
      · cases near
        all_goals (
          try k_fold
          k_steps
          first
          | exact ret _ [] _ _ (by assumption) (news_sub (by assumption) (fun _ h => sub_left _ h)) (fun _ h => (nomatch h)) ⟨rfl, congrArg Value.bool (hb_true_brk hst rfl).symm⟩
          | (rename Fr _ _ _ _ => F9
             rename News _ _ _ _ => N9
             rename BodiesIn _ _ _ => hB9
             rename (_, listOf _ _) ∈ _ => mi9
             refine Held.intro ?_
             try k_fold
             refine (iter_list ["inner"] (fun i nx' => nx' = _) (by exact rfl) (fun i nx h => by rw [h]; exact List.mem_append.mpr (.inl mi9)) F9 N9 rfl ?_ ?_)
             · intro i2 v2 u2 nx2 h2 tk2 own2 hv2 _ _ _ _
               obtain ⟨b', hb', _⟩ := hB9.get hv2
               cases hb'
             · rintro u2 nx2 h2 tk2 rfl F2 N2
               clear F9 N9 F₁ N₁
               try k_fold
               k_steps
               exact ⟨_, _, _, _, rfl, by assumption, news_sub (by assumption) sub_left, hoff, Same.lost (by decide) (Same.put (by decide) (Same.put (by decide) (Same.lost (by decide) Same.refl))), rfl, step_pre hpre hst (hb1_false rfl (fun _ h => (nomatch h)))⟩))
      · cases hl
        all_goals (
          try k_fold
          k_steps
          all_goals first
          | exact ret _ [] _ _ (by assumption) (news_sub (by assumption) (fun _ h => sub_left _ h)) (fun _ h => (nomatch h)) ⟨rfl, congrArg Value.bool (hb_true_brk hst (brk_yes (by assumption))).symm⟩
          | (rename Fr _ _ _ _ => F9
             rename News _ _ _ _ => N9
             rename BodiesIn _ _ _ => hB9
             rename (_, listOf _ _) ∈ _ => mi9
             refine Held.intro ?_
             try k_fold
             refine (iter_list ["inner"] (fun i nx' => nx' = _) (by exact rfl) (fun i nx h => by rw [h]; exact List.mem_append.mpr (.inl mi9)) F9 N9 rfl ?_ ?_)
             · intro i2 v2 u2 nx2 h2 tk2 own2 hv2 _ _ _ _
               obtain ⟨b', hb', _⟩ := hB9.get hv2
               cases hb'
             · rintro u2 nx2 h2 tk2 rfl F2 N2
               clear F9 N9 F₁ N₁
               try k_fold
               k_steps
               exact ⟨_, _, _, _, rfl, by assumption, news_sub (by assumption) sub_left, hoff, Same.lost (by decide) (Same.put (by decide) (Same.put (by decide) (Same.lost (by decide) Same.refl))), rfl, step_pre hpre hst (hb1_false (by first | exact rfl | exact brk_no (by assumption)) (fun _ h => (nomatch h)))⟩))
    · have hm' : (a₁, tupO (.str k₁ t₁ :: r₁) n₁) ∈ own ++ nx := sub_left _ hm
      have hin : ∀ b' ∈ st.inn, b'.sz < b.sz := fun b' h => Nat.lt_of_lt_of_le (sz_inn h) (sz_toList (List.mem_of_getElem? hst))
      have mk9 : Mark9 := trivial
      try k_fold
      k_steps
      refine Held.intro ?_
      try k_fold
      rename Mark9 => mk8
      clear mk8
      refine cut_put (sG := sG) (sD := sD) (sO := sO) (x := Str.ofString "near") (v := .bool (near && !st.left)) F₁ N₁ ?_ ?_
      · clear hk₁ hb IH
        try k_fold
        cases near
        · k_steps
          rename Fr _ _ _ _ => F8
          exact Held.intro ⟨_, _, rfl, F8, by assumption⟩
        · k_steps
          rename Fr _ _ _ _ => F8
          rw [hleft] at F8
          exact Held.intro ⟨_, _, rfl, F8, by assumption⟩
      · intro h7 tk7 F8 N8
        clear F₁ N₁
        try k_fold
        k_steps
        rename Fr _ _ _ _ => F9
        rename News _ _ _ _ => N9
        rename BodiesIn _ _ _ => hB9
        rename (_, listOf _ _) ∈ _ => mi9
        refine Held.intro ?_
        try k_fold
        refine (iter_list ["inner"] (fun i nx' => nx' = _ ∧ ∀ j b', j < i → st.inn[j]? = some b' → hbs b' l (near && !st.left) = false) (by exact rfl) (fun i nx h => by rw [h.1]; exact List.mem_append.mpr (.inl mi9)) F9 N9 ⟨rfl, fun _ _ h => absurd h (Nat.not_lt_zero _)⟩ ?_ ?_)
        · intro i2 v2 u2 nx2 h2 tk2 own2 hv2 hP9 hoff2 F2 N2
          try k_fold
          obtain ⟨rfl, hpre2⟩ := hP9
          obtain ⟨b', hb', hB'⟩ := hB9.get hv2
          obtain ⟨hm2, hs2⟩ := BodyIn.mono (sub_left (a := own2)) hB'
          have hsz := hin b' (List.mem_of_getElem? hb')
          have hA := IH b' hsz
          clear hm' F9 N9
          try k_fold
          k_steps
          · exact ret _ [] _ _ (by assumption) (news_sub (by assumption) (fun _ h => sub_left _ (sub_left _ (sub_left _ h)))) (fun _ h => (nomatch h)) ⟨rfl, congrArg Value.bool (hb_true hst hb' (by assumption)).symm⟩
          · exact ⟨_, _, _, _, rfl, by assumption, by assumption, hoff2, Same.put (by decide) (Same.lost (by decide) Same.refl), rfl, step_pre hpre2 hb' (by assumption)⟩
        · intro u2 nx2 h2 tk2 hP9 F2 N2
          try k_fold
          obtain ⟨rfl, hJ2⟩ := hP9
          clear hm' F9 N9
          try k_fold
          k_steps
          exact ⟨_, _, _, _, rfl, by assumption, news_sub (by assumption) sub_left, hoff, Same.lost (by decide) (Same.put (by decide) (Same.put (by decide) (Same.lost (by decide) Same.refl))), rfl, step_pre hpre hst (hb1_false (hbr _ _) (all_pre hJ2 (Nat.le_of_eq hB9.length.symm)))⟩
  · intro u2 nx2 h2 tk2 hP9 F2 N2
    try k_fold
    obtain ⟨rfl, hJ2⟩ := hP9
    try k_fold
    k_steps
    exact ret _ [] _ _ (by assumption) (by assumption) (fun _ h => (nomatch h)) ⟨rfl, congrArg Value.bool (hbs_false (all_pre hJ2 (Nat.le_of_eq hb.length.symm))).symm⟩
theorem has_break_step (b : Sts) (IH : ∀ b' : Sts, b'.sz < b.sz → HbAt w mean mg mb b') : HbAt w mean mg mb b := fun _ _ _ _ _ _ _ hl hk hb => has_break_core b IH hb_binds3 hl hk hb
theorem has_break_all : ∀ n, ∀ b : Sts, b.sz < n → HbAt w mean mg mb b
  | 0, _, h => absurd h (Nat.not_lt_zero _)
  | n + 1, b, h => has_break_step b fun b' h' => has_break_all n b' (Nat.lt_of_lt_of_le h' (Nat.le_of_lt_succ h))
theorem has_break_spec (b : Sts) : HbAt w mean mg mb b := has_break_all _ b (Nat.lt_succ_self _)
end
end
section
set_option tactic.hygienic false
theorem ln15 : True := by
  k_with_none
  (k_with "room" => first | exact roomE (by assumption) | exact roomD (by assumption) (by first | decide | omega) | ((try simp only [depth_mark, depth_under_make, depth_under_kw, depth_in1, depth_deeper, depth_caller]); (try dsimp only [ktrTop]); omega))
  (k_with "mem" => first | exact List.mem_cons_self | (refine List.mem_cons_of_mem _ ?_; first | ktr_member | k_mem))
  (k_with "enter" => (refine' code_def (by first | (k_asm) | fail "no") (by first | (k_asm) | fail "no") (by first | (k_asm) | fail "no") (by first | (k_asm) | fail "no") (by first | (k_asm) | fail "no") (by first | (exact rfl) | fail "no") (by first | (exact rfl) | fail "no") (by first | (first | exact rfl | assumption) | fail "no") (by first | (k_is) | fail "no") (by first | (k_is) | fail "no") (by first | (k_room) | fail "no") (by first | (first | exact BindsTo.of_eq rfl | exact binds_K (by k_in) rfl (by k_is) rfl rfl rfl) | fail "no") (by first | (exact locs rfl) | fail "no") ?_ (by first | (exact rfl) | fail "no") (by first | (exact rfl) | fail "no") (by first | (exact rfl) | fail "no") (by first | (decide) | fail "no"); k_whole; intro g' L' h' FG' F' N' B' X' T'; (try dsimp only); (try k_fold); (try (refine (let en9 := _; let ar9 := Around.deeper _ en9; (?_ : wpAny _ ar9 (execs _ en9) _ _ _))))))
  (k_with "exec For Name Name cons nil" => (k_here; (rename Fr _ _ _ _ => lF'); (with_unfolding_all refine' For_invVF lF' (by first | (exact rfl) | fail "no") (by first | (exact rfl) | fail "no") ?_; k_whole)))
  (k_with "exec For Name Call cons nil" => (k_here; (rename Fr _ _ _ _ => lF'); (with_unfolding_all refine' For_invVF lF' (by first | (exact rfl) | fail "no") (by first | (exact rfl) | fail "no") ?_; k_whole)))
  (k_with "pyIter ref" => (refine Held.out ?_))
  (k_with "subscriptTail" => (k_here; (with_reducible show wpAny _ _ (subscriptTail _ _ (Value.ref _) (Value.int 0 _)) _ _ _); k_dflt (refine' item0 (by first | (exact News.isTup (by k_asm) (by k_mem)) | fail "no") ?_ (by first | (with_unfolding_all rfl) | fail "no"); k_whole)))
  (k_with "compareOp NotIn str ref" => (k_here; (with_reducible show wpAny _ _ (compareOp CmpOp.NotIn (Value.str _ _) (Value.ref _)) _ _ _); (with_unfolding_all refine' notin_tuple_strs (by first | ((refine' tupK (by first | (k_in) | fail "no") (by first | (k_dflt k_is) | fail "no"))) | fail "no") (by first | (repeat constructor) | fail "no") ?_; k_whole)))
  (k_with "ite" => (refine ite_no (by first | ((simp only [beq_eq_false_iff_ne, ne_eq]; assumption)) | fail "no") ?_))
  (k_with "TurnPost" => (dsimp only [TurnPost]))
  trivial

section
variable {prog : Program} {w : World} {A : Around} {E : Value → Shared → Prop} {s : Shared}
theorem eq_nilL {l b : Addr} {vs : List Value} {Q : Value → Shared → Prop} (hl : s.heap.IsList l vs.toArray) (hb : s.heap.IsList b #[]) (hu : A.units < cLine) (h : Q (.bool vs.isEmpty) s) : wpAny (model prog w) A (compareOp .Eq (.ref l) (.ref b)) Q E s := by
  cases vs with
  | nil => exact SeqAt.eq_listAt (e := fun _ => true) hl hb rfl hu (fun j h1 => absurd h1 (Nat.not_lt_zero _)) h
  | cons v vs => exact SeqAt.eq_list_lengthsAt hl hb (by simp) hu h
theorem ne_nilL {l b : Addr} {vs : List Value} {Q : Value → Shared → Prop} (hl : s.heap.IsList l vs.toArray) (hb : s.heap.IsList b #[]) (hu : A.units < cLine) (h : Q (.bool (!vs.isEmpty)) s) : wpAny (model prog w) A (compareOp .NotEq (.ref l) (.ref b)) Q E s := by
  cases vs with
  | nil => exact SeqAt.RcNeAt.lists (e := fun _ => true) hl hb rfl hu (fun j h1 => absurd h1 (Nat.not_lt_zero _)) prog w E Q h
  | cons v vs => exact SeqAt.RcNeAt.lists_lengths hl hb (by simp) hu prog w E Q h
theorem ne_nilT {l b : Addr} {vs : List Value} {Q : Value → Shared → Prop} (hl : s.heap.IsTuple l vs.toArray) (hb : s.heap.IsTuple b #[]) (hu : A.units < cLine) (h : Q (.bool (!vs.isEmpty)) s) : wpAny (model prog w) A (compareOp .NotEq (.ref l) (.ref b)) Q E s := by
  refine SeqAt.RcNeAt.tuples (e := fun _ => true) hl hb hu (fun j h1 h2 => absurd h2 (Nat.not_lt_zero _)) prog w E Q ?_
  cases vs with
  | nil => exact h
  | cons v vs => simpa using h

theorem item_last {value slice : PySem.Expr} {t : Addr} {x : Value} {r : List Value} {u : Tok} {Q : Value → Shared → Prop} (ht : IsTup s.heap t r.toArray) (hx : r.getLast? = some x) (h : Q x s)
    (hs : subscripted slice false (.ref t) (.int (-1) u) = operate [.ref t, .int (-1) u] (getItem (.ref t) (.int (-1) u)) ) :
    wpAny (model prog w) A (subscriptTail value slice (.ref t) (.int (-1) u)) Q E s := by
  have hne : r ≠ [] := fun e => by rw [e] at hx; cases hx
  have hpos : 0 < r.length := List.length_pos_iff.mpr hne
  refine item_tupleT ht (by decide) (by decide) (j := r.length - 1) ?_ (by rw [← List.getLast?_eq_getElem?]; exact hx) h hs
  unfold seqIndex?
  simp only [show ((-1 : Int) < 0) = True from by simp, if_true]
  have h1 : ¬ ((-1 : Int) + (r.length : Int) < 0) := by omega
  have h2 : (-1 : Int) + (r.length : Int) < (r.length : Int) := by omega
  simp only [h1, h2]
  first | rfl | (simp; omega)
end
theorem ln16 : True := by
  (k_with "subscriptTail" => (k_here; (with_reducible show wpAny _ _ (subscriptTail _ _ (Value.ref _) (Value.int (-1) _)) _ _ _); k_dflt (refine' item_last (by first | (exact News.isTup (by k_asm) (by k_mem)) | fail "no") (by first | (assumption) | fail "no") ?_ (by first | (with_unfolding_all rfl) | fail "no"); k_whole)))
  trivial

theorem ite_yes {c : Bool} {a b : Prop} (hc : c = true) (h : a) : if c = true then a else b := by rw [hc]; exact h
theorem ln17 : True := by
  (k_with "ite" => (refine ite_yes (by first | ((simp only [bne_iff_ne, ne_eq]; assumption)) | fail "no") ?_))
  trivial

/-! ## is_panic -/
noncomputable def Ex.pan : Ex → Bool
  | .cn x => x == ("panic" : Str)
  | _ => false
noncomputable def St.pan : St → Bool
  | .ex e => e.pan
  | _ => false
section
variable {w : World} {mean : ExcName → Option Value} {mg mb : Str → Option Value} {news : List (Addr × Obj)}
set_option maxRecDepth 100000 in
set_option maxHeartbeats 8000000 in
theorem panic_no {a₁ : Addr} {n : Nat} {k : Str} {t : Tok} {r : List Value} (R : (a₁, tupO (.str k t :: r) n) ∈ news) (h1 : k ≠ "expr") :
    Call w mean mg mb 3 76 [.ref a₁] news fun r tl => tl = [] ∧ r = .bool false := by
  intro dp un gd cn cs a ccd cl outer A₀ base h₀ L m sH sG sD sT sO Q E B F X N T hk hdp hun ret
  refine wpAny_call ?_
  k_dflt ktr_enter
  k_steps
  exact ret _ [] _ _ (by assumption) (by assumption) (fun _ h => (nomatch h)) ⟨rfl, rfl⟩
set_option maxRecDepth 100000 in
set_option maxHeartbeats 8000000 in
theorem panic_ex {v : Value} {e : Ex} (R : StIn news v (.ex e)) : Call w mean mg mb 3 76 [v] news fun r tl => tl = [] ∧ r = .bool e.pan := by
  intro dp un gd cn cs a ccd cl outer A₀ base h₀ L m sH sG sD sT sO Q E B F X N T hk hdp hun ret
  cases R with
  | ex h hE =>
    cases hE
    all_goals (
      refine wpAny_call ?_
      k_dflt ktr_enter
      k_steps
      exact ret _ [] _ _ (by assumption) (by assumption) (fun _ h => (nomatch h)) ⟨rfl, congrArg Value.bool (by first | rfl | decide)⟩)
theorem StIn.kind_ex {v : Value} {st : St} (h : StIn news v st) : (∃ e, st = .ex e) ∨ ∃ a n k t r, v = .ref a ∧ (a, tupO (.str k t :: r) n) ∈ news ∧ k ≠ ("expr" : Str) ∧ st.pan = false := by
  cases h with
  | ex h => exact .inl ⟨_, rfl⟩
  | blk h => obtain ⟨h, _, _⟩ := h; exact .inr ⟨_, _, _, _, _, rfl, h, by decide, rfl⟩
  | _ h => exact .inr ⟨_, _, _, _, _, rfl, h, by decide, rfl⟩
theorem is_panic_spec {v : Value} {st : St} (R : StIn news v st) : Call w mean mg mb 3 76 [v] news fun r tl => tl = [] ∧ r = .bool st.pan := by
  rcases R.kind_ex with ⟨e, rfl⟩ | ⟨a, n, k, t, r, rfl, h, hk, hp⟩
  · exact panic_ex R
  · rw [hp]; exact panic_no h hk

noncomputable def HbAt2 (w : World) (mean : ExcName → Option Value) (mg mb : Str → Option Value) (b : Sts) : Prop :=
  ∀ (l : Option Str) (lv : Value) (k : Addr) (n : Nat) (vs : List Value) (news : List (Addr × Obj)), LabIn lv l → (k, tupO vs n) ∈ news → StsIn news vs b →
      Call w mean mg mb (3 * b.sz + 5) 69 [.ref k, lv] news fun r tl => tl = [] ∧ r = .bool (hbs b l true)
end
end
section
set_option tactic.hygienic false
theorem ln18 : True := by
  k_with_none
  (k_with "room" => first | exact roomE (by assumption) | exact roomD (by assumption) (by first | decide | omega) | ((try simp only [depth_mark, depth_under_make, depth_under_kw, depth_in1, depth_deeper, depth_caller]); (try dsimp only [ktrTop]); omega))
  (k_with "mem" => first | exact List.mem_cons_self | (refine List.mem_cons_of_mem _ ?_; first | ktr_member | k_mem))
  (k_with "enter" => (refine' code_def (by first | (k_asm) | fail "no") (by first | (k_asm) | fail "no") (by first | (k_asm) | fail "no") (by first | (k_asm) | fail "no") (by first | (k_asm) | fail "no") (by first | (exact rfl) | fail "no") (by first | (exact rfl) | fail "no") (by first | (first | exact rfl | assumption) | fail "no") (by first | (k_is) | fail "no") (by first | (k_is) | fail "no") (by first | (k_room) | fail "no") (by first | (first | exact BindsTo.of_eq rfl | exact binds_K (by k_in) rfl (by k_is) rfl rfl rfl) | fail "no") (by first | (exact locs rfl) | fail "no") ?_ (by first | (exact rfl) | fail "no") (by first | (exact rfl) | fail "no") (by first | (exact rfl) | fail "no") (by first | (decide) | fail "no"); k_whole; intro g' L' h' FG' F' N' B' X' T'; (try dsimp only); (try k_fold); (try (refine (let en9 := _; let ar9 := Around.deeper _ en9; (?_ : wpAny _ ar9 (execs _ en9) _ _ _))))))
  (k_with "exec For Name Name cons nil" => (k_here; (rename Fr _ _ _ _ => lF'); (with_unfolding_all refine' For_invVF lF' (by first | (exact rfl) | fail "no") (by first | (exact rfl) | fail "no") ?_; k_whole)))
  (k_with "exec For Name Call cons nil" => (k_here; (rename Fr _ _ _ _ => lF'); (with_unfolding_all refine' For_invVF lF' (by first | (exact rfl) | fail "no") (by first | (exact rfl) | fail "no") ?_; k_whole)))
  (k_with "pyIter ref" => (refine Held.out ?_))
  (k_with "subscriptTail" => (k_here; (with_reducible show wpAny _ _ (subscriptTail _ _ (Value.ref _) (Value.int 0 _)) _ _ _); k_dflt (refine' item0 (by first | (exact News.isTup (by k_asm) (by k_mem)) | fail "no") ?_ (by first | (with_unfolding_all rfl) | fail "no"); k_whole)))
  (k_with "compareOp NotIn str ref" => (k_here; (with_reducible show wpAny _ _ (compareOp CmpOp.NotIn (Value.str _ _) (Value.ref _)) _ _ _); (with_unfolding_all refine' notin_tuple_strs (by first | ((refine' tupK (by first | (k_in) | fail "no") (by first | (k_dflt k_is) | fail "no"))) | fail "no") (by first | (repeat constructor) | fail "no") ?_; k_whole)))
  (k_with "ite" => (refine ite_no (by first | ((simp only [beq_eq_false_iff_ne, ne_eq]; assumption)) | fail "no") ?_))
  (k_with "TurnPost" => (dsimp only [TurnPost]))
  trivial

section
variable {w : World} {mean : ExcName → Option Value} {mg mb : Str → Option Value}
theorem has_break2_spec (b : Sts) : HbAt2 w mean mg mb b := fun _ _ _ _ _ _ hl hk hb => has_break_core b (fun b' _ => has_break_spec b') hb_binds2 hl hk hb
end
end
section
set_option tactic.hygienic false
theorem ln19 : True := by
  k_with_none
  (k_with "room" => first | exact roomE (by assumption) | exact roomD (by assumption) (by first | decide | omega) | ((try simp only [depth_mark, depth_under_make, depth_under_kw, depth_in1, depth_deeper, depth_caller]); (try dsimp only [ktrTop]); omega))
  (k_with "mem" => first | exact List.mem_cons_self | (refine List.mem_cons_of_mem _ ?_; first | ktr_member | k_mem))
  (k_with "enter" => (refine' code_def (by first | (k_asm) | fail "no") (by first | (k_asm) | fail "no") (by first | (k_asm) | fail "no") (by first | (k_asm) | fail "no") (by first | (k_asm) | fail "no") (by first | (exact rfl) | fail "no") (by first | (exact rfl) | fail "no") (by first | (first | exact rfl | assumption) | fail "no") (by first | (k_is) | fail "no") (by first | (k_is) | fail "no") (by first | (k_room) | fail "no") (by first | (first | exact BindsTo.of_eq rfl | exact binds_K (by k_in) rfl (by k_is) rfl rfl rfl) | fail "no") (by first | (exact locs rfl) | fail "no") ?_ (by first | (exact rfl) | fail "no") (by first | (exact rfl) | fail "no") (by first | (exact rfl) | fail "no") (by first | (decide) | fail "no"); k_whole; intro g' L' h' FG' F' N' B' X' T'; (try dsimp only); (try k_fold)))
  (k_with "exec For Name Name cons nil" => (k_here; (rename Fr _ _ _ _ => lF'); (with_unfolding_all refine' For_invVF lF' (by first | (exact rfl) | fail "no") (by first | (exact rfl) | fail "no") ?_; k_whole)))
  (k_with "exec For Name Call cons nil" => (k_here; (rename Fr _ _ _ _ => lF'); (with_unfolding_all refine' For_invVF lF' (by first | (exact rfl) | fail "no") (by first | (exact rfl) | fail "no") ?_; k_whole)))
  (k_with "pyIter ref" => (refine Held.out ?_))
  (k_with "subscriptTail" => (k_here; (with_reducible show wpAny _ _ (subscriptTail _ _ (Value.ref _) (Value.int 0 _)) _ _ _); k_dflt (refine' item0 (by first | (exact News.isTup (by k_asm) (by k_mem)) | fail "no") ?_ (by first | (with_unfolding_all rfl) | fail "no"); k_whole)))
  (k_with "compareOp NotIn str ref" => (k_here; (with_reducible show wpAny _ _ (compareOp CmpOp.NotIn (Value.str _ _) (Value.ref _)) _ _ _); (with_unfolding_all refine' notin_tuple_strs (by first | ((refine' tupK (by first | (k_in) | fail "no") (by first | (k_dflt k_is) | fail "no"))) | fail "no") (by first | (repeat constructor) | fail "no") ?_; k_whole)))
  (k_with "ite" => (refine ite_no (by first | ((simp only [beq_eq_false_iff_ne, ne_eq]; assumption)) | fail "no") ?_))
  (k_with "TurnPost" => (dsimp only [TurnPost]))
  trivial

theorem ite_yes2 {c : Bool} {a b : Prop} (hc : c = true) (h : a) : if c = true then a else b := by rw [hc]; exact h
theorem ln20 : True := by
  (k_with "ite" => (refine ite_yes2 (by first | ((simp only [bne_iff_ne, ne_eq]; assumption)) | fail "no") ?_))
  (k_with "subscriptTail" => (k_here; (with_reducible show wpAny _ _ (subscriptTail _ _ (Value.ref _) (Value.int (-1) _)) _ _ _); k_dflt (refine' item_last (by first | (exact News.isTup (by k_asm) (by k_mem)) | fail "no") (by first | (assumption) | fail "no") ?_ (by first | (with_unfolding_all rfl) | fail "no"); k_whole)))
  trivial

/-! ## is_terminating -/
noncomputable def St.isFall : St → Bool
  | .fall => true
  | _ => false
noncomputable def Sts.last (b : Sts) : Option St := b.toList.getLast?
noncomputable def fallLast (b : Sts) : Bool := match b.last with
  | some s => s.isFall
  | none => false
noncomputable def Cs.hasDef : Cs → Bool
  | .nil => false
  | .cons d _ r => d || r.hasDef
mutual
noncomputable def term1 : St → Bool
  | .ret => true
  | .ex e => e.pan
  | .blk b => terms b
  | .if2 b e => terms b && term1 e
  | .for_ l c b => c && !hbs b l true
  | .sw l cs => cs.hasDef && casesEnd cs l
  | .cho l cs => casesEnd cs l
  | .fall | .brk _ | .cont _ | .rng _ _ | .if1 _ => false
noncomputable def terms : Sts → Bool
  | .nil => false
  | .cons s .nil => term1 s
  | .cons _ (.cons s r) => terms (.cons s r)
noncomputable def casesEnd : Cs → Option Str → Bool
  | .nil, _ => true
  | .cons _ b r, l => ((fallLast b || terms b) && !hbs b l true) && casesEnd r l
end
theorem terms_last : ∀ b : Sts, terms b = match b.last with | some s => term1 s | none => false
  | .nil => rfl
  | .cons s .nil => by rw [terms]; rfl
  | .cons s (.cons s' r) => by
    rw [terms, terms_last (.cons s' r)]
    have : Sts.last (.cons s (.cons s' r)) = Sts.last (.cons s' r) := by simp [Sts.last, Sts.toList, List.getLast?_cons_cons]
    rw [this]
theorem casesEnd_all (l : Option Str) : ∀ c : Cs, casesEnd c l = c.bodies.all fun b => (fallLast b || terms b) && !hbs b l true
  | .nil => rfl
  | .cons _ b r => by rw [casesEnd, Cs.bodies, List.all_cons, casesEnd_all l r]
theorem StsIn.lastIn {news : List (Addr × Obj)} {vs : List Value} {b : Sts} {v : Value} (h : StsIn news vs b) (e : vs.getLast? = some v) : ∃ s, b.last = some s ∧ StIn news v s ∧ s ∈ b.toList := by
  rw [List.getLast?_eq_getElem?] at e
  obtain ⟨s, h1, h2⟩ := h.get e
  exact ⟨s, by rw [Sts.last, List.getLast?_eq_getElem?, ← h.length]; exact h1, h2, List.mem_of_getElem? h1⟩
theorem StsIn.none {news : List (Addr × Obj)} {vs : List Value} {b : Sts} (h : StsIn news vs b) (e : vs.getLast? = none) : vs = [] ∧ b = .nil := by
  cases h with
  | nil => exact ⟨rfl, rfl⟩
  | cons => rw [List.getLast?_cons] at e; cases e
theorem StIn.kind_fall {news : List (Addr × Obj)} {v : Value} {st : St} (h : StIn news v st) : ∃ a n k t r, v = .ref a ∧ (a, tupO (.str k t :: r) n) ∈ news ∧ (k == ("fallthrough" : Str)) = st.isFall := by
  cases h with
  | blk h => obtain ⟨h, _, _⟩ := h; exact ⟨_, _, _, _, _, rfl, h, by simp only [St.isFall]; decide⟩
  | _ h => exact ⟨_, _, _, _, _, rfl, h, by simp only [St.isFall]; decide⟩

noncomputable def TermAt (w : World) (mean : ExcName → Option Value) (mg mb : Str → Option Value) (b : Sts) : Prop :=
  ∀ (k : Addr) (n : Nat) (vs : List Value) (news : List (Addr × Obj)), (k, tupO vs n) ∈ news → StsIn news vs b →
      Call w mean mg mb (6 * b.sz + 12) 95 [.ref k] news fun r tl => tl = [] ∧ r = .bool (terms b)
theorem TermAt.use {w : World} {mean : ExcName → Option Value} {mg mb : Str → Option Value} {b : Sts} (h : TermAt w mean mg mb b) {k : Addr} {n : Nat} {vs : List Value} {news : List (Addr × Obj)} (h2 : (k, tupO vs n) ∈ news) (h3 : StsIn news vs b) :
    Call w mean mg mb (6 * b.sz + 12) 95 [.ref k] news fun r tl => tl = [] ∧ r = .bool (terms b) := h _ _ _ _ h2 h3
theorem ln21 : True := by
  (k_with "call ref" => (k_here; (with_reducible show wpAny _ _ (call (Value.ref 95) _) _ _ _); (try k_fold); k_dflt (refine' Call.go0 (by first | (k_asm) | fail "no") (by first | (k_asm) | fail "no") (by first | (k_asm) | fail "no") (by first | (k_asm) | fail "no") (by first | (k_asm) | fail "no") (by first | (first | exact rfl | assumption) | fail "no") (TermAt.use (by first | (assumption) | fail "no") (by first | (k_mem) | fail "no") (by first | (first | assumption | exact StsIn.mono (sub_tail sub_self) (by assumption)) | fail "no")) (by first | (k_room) | fail "no") (by first | ((first | exact roomU (by assumption) (by first | decide | omega) | exact roomV (by assumption) (by first | decide | omega) | ((try simp only [units_in1, units_deeper, Around.mark_units, units_caller]); (try dsimp only [ktrTop]); omega))) | fail "no") ?_); intro h9 tk9 F9 N9; (try k_unfold); (try dsimp only); (try k_fold)))
  (k_with "compareOp NotEq ref ref" => (k_here; (with_unfolding_all refine' ne_nilT (by first | (exact News.isTup (by k_asm) (by k_mem)) | fail "no") (by first | (exact News.isTup (by k_asm) (by k_mem)) | fail "no") (by first | ((first | exact roomU (by assumption) (by first | decide | omega) | exact roomV (by assumption) (by first | decide | omega) | ((try simp only [units_in1, units_deeper, Around.mark_units, units_caller]); (try dsimp only [ktrTop]); omega))) | fail "no") ?_)))
  trivial

section
variable {w : World} {mean : ExcName → Option Value} {mg mb : Str → Option Value} {news : List (Addr × Obj)}
set_option maxRecDepth 100000 in
set_option maxHeartbeats 8000000 in
theorem case_ended_spec {b : Sts} (hT : TermAt w mean mg mb b) {k : Addr} {n : Nat} {vs : List Value} (hm : (k, tupO vs n) ∈ news) (hs : StsIn news vs b) :
    Call w mean mg mb (6 * b.sz + 14) 83 [.ref k] news fun r tl => tl = [] ∧ r = .bool (fallLast b || terms b) := by
  intro dp un gd cn cs a ccd cl outer A₀ base h₀ L m sH sG sD sT sO Q E B F X N T hk hdp hun ret
  cases hv : vs.getLast? with
  | none =>
    obtain ⟨rfl, hb0⟩ := hs.none hv
    refine wpAny_call ?_
    k_dflt ktr_enter
    k_steps
    refine ret _ [] _ _ (by assumption) (news_sub (by assumption) (by first | exact sub_self | exact sub_tail sub_self)) (fun _ h => (nomatch h)) ⟨rfl, congrArg Value.bool ?_⟩
    rw [hb0]; rfl
  | some v =>
    obtain ⟨st, h1, h2, _⟩ := hs.lastIn hv
    obtain ⟨a₁, n₁, k₁, t₁, r₁, rfl, h3, h4⟩ := h2.kind_fall
    have hf : fallLast b = st.isFall := by unfold fallLast; rw [h1]
    refine wpAny_call ?_
    k_dflt ktr_enter
    k_steps
    · rename vs.isEmpty = true => he
      rw [List.isEmpty_iff.mp he] at hv; cases hv
    · refine ret _ [] _ _ (by assumption) (news_sub (by assumption) (by first | exact sub_self | exact sub_tail sub_self)) (fun _ h => (nomatch h)) ⟨rfl, congrArg Value.bool ?_⟩
      rename (k₁ == _) = true => he
      rw [hf, ← h4, he]; rfl
    · refine ret _ [] _ _ (by assumption) (news_sub (by assumption) (by first | exact sub_self | exact sub_tail sub_self)) (fun _ h => (nomatch h)) ⟨rfl, congrArg Value.bool ?_⟩
      rename (k₁ == _) = false => he
      rw [hf, ← h4, he]; rfl

theorem sub_t1 {x : Addr × Obj} {a : List (Addr × Obj)} : ∀ p ∈ a, p ∈ x :: a := sub_tail sub_self
theorem sub_t2 {x y : Addr × Obj} {a : List (Addr × Obj)} : ∀ p ∈ a, p ∈ x :: y :: a := sub_tail sub_t1
theorem sub_t3 {x y z : Addr × Obj} {a : List (Addr × Obj)} : ∀ p ∈ a, p ∈ x :: y :: z :: a := sub_tail sub_t2
theorem sub_t4 {x y z u : Addr × Obj} {a : List (Addr × Obj)} : ∀ p ∈ a, p ∈ x :: y :: z :: u :: a := sub_tail sub_t3
theorem sub_t5 {x y z u v : Addr × Obj} {a : List (Addr × Obj)} : ∀ p ∈ a, p ∈ x :: y :: z :: u :: v :: a := sub_tail sub_t4
/-! ### ends_by_cases -/
noncomputable def Cs.defs : Cs → List Bool
  | .nil => []
  | .cons d _ r => d :: r.defs
theorem hasDef_any : ∀ c : Cs, c.hasDef = c.defs.any id
  | .nil => rfl
  | .cons d _ r => by rw [Cs.hasDef, Cs.defs, List.any_cons, hasDef_any r]; rfl
theorem CsIn.getD {vs : List Value} {c : Cs} {i : Nat} {v : Value} (h : CsIn news vs c) (e : vs[i]? = some v) : ∃ a k n dv d, v = .ref a ∧ (a, tupO [dv, .ref k] n) ∈ news ∧ TestIn dv d ∧ c.defs[i]? = some d := by
  refine CsIn.ind (P := fun vs c => ∀ i, vs[i]? = some v → ∃ a k n dv d, v = .ref a ∧ (a, tupO [dv, .ref k] n) ∈ news ∧ TestIn dv d ∧ c.defs[i]? = some d) (fun i e => none_at e) (fun h t _ _ ih i e => ?_) h i e
  cases i with
  | zero => cases e; exact ⟨_, _, _, _, _, rfl, h, t, rfl⟩
  | succ i => exact ih i e
theorem CsIn.lengthD {vs : List Value} {c : Cs} (h : CsIn news vs c) : vs.length = c.defs.length :=
  CsIn.ind (P := fun vs c => vs.length = c.defs.length) rfl (fun _ _ _ _ ih => congrArg Nat.succ ih) h
theorem cases_no {c : Cs} {l : Option Str} {i : Nat} {b : Sts} (h : c.bodies[i]? = some b) (e : ((fallLast b || terms b) && !hbs b l true) = false) : casesEnd c l = false := by
  rw [casesEnd_all, List.all_eq_false]
  exact ⟨b, List.mem_of_getElem? h, by rw [e]; decide⟩
theorem cases_yes {c : Cs} {l : Option Str} (h : ∀ b ∈ c.bodies, ((fallLast b || terms b) && !hbs b l true) = true) : casesEnd c l = true := by
  rw [casesEnd_all, List.all_eq_true]; exact h
theorem any_take {l : List Bool} {i : Nat} {d : Bool} (h : l[i]? = some d) : (l.take (i + 1)).any id = ((l.take i).any id || d) := by
  rw [List.take_add_one, h, List.any_append]; simp
theorem ln22 : True := by
  (k_with "compareOp Eq ref ref" => (k_here; k_dflt (refine' eq_nilL (by first | (exact News.isList (by k_asm) (by k_mem)) | fail "no") (by first | (exact News.isList (by k_asm) (by k_mem)) | fail "no") (by first | ((first | exact roomU (by assumption) (by first | decide | omega) | exact roomV (by assumption) (by first | decide | omega) | ((try simp only [units_in1, units_deeper, Around.mark_units, units_caller]); (try dsimp only [ktrTop]); omega))) | fail "no") ?_)))
  trivial

theorem HbAt2.use {b : Sts} (h : HbAt2 w mean mg mb b) {l : Option Str} {lv : Value} {k : Addr} {n : Nat} {vs : List Value} (h1 : LabIn lv l) (h2 : (k, tupO vs n) ∈ news) (h3 : StsIn news vs b) :
    Call w mean mg mb (3 * b.sz + 5) 69 [.ref k, lv] news fun r tl => tl = [] ∧ r = .bool (hbs b l true) := h _ _ _ _ _ _ h1 h2 h3
theorem ln23 : True := by
  (k_with "call ref" => (k_here; (with_reducible show wpAny _ _ (call (Value.ref 69) _) _ _ _); (try k_fold); k_dflt (refine' Call.go0 (by first | (k_asm) | fail "no") (by first | (k_asm) | fail "no") (by first | (k_asm) | fail "no") (by first | (k_asm) | fail "no") (by first | (k_asm) | fail "no") (by first | (first | exact rfl | assumption) | fail "no") (HbAt2.use (has_break2_spec _) (by first | (assumption) | fail "no") (by first | (k_mem) | fail "no") (by first | (assumption) | fail "no")) (by first | (k_room) | fail "no") (by first | ((first | exact roomU (by assumption) (by first | decide | omega) | exact roomV (by assumption) (by first | decide | omega) | ((try simp only [units_in1, units_deeper, Around.mark_units, units_caller]); (try dsimp only [ktrTop]); omega))) | fail "no") ?_); intro h9 tk9 F9 N9; (try k_unfold); (try dsimp only); (try k_fold)))
  (k_with "call ref" => (k_here; (with_reducible show wpAny _ _ (call (Value.ref 83) _) _ _ _); (try k_fold); k_dflt (refine' Call.go0 (by first | (k_asm) | fail "no") (by first | (k_asm) | fail "no") (by first | (k_asm) | fail "no") (by first | (k_asm) | fail "no") (by first | (k_asm) | fail "no") (by first | (first | exact rfl | assumption) | fail "no") (case_ended_spec (by first | (assumption) | fail "no") (by first | (k_mem) | fail "no") (by first | (assumption) | fail "no")) (by first | (k_room) | fail "no") (by first | ((first | exact roomU (by assumption) (by first | decide | omega) | exact roomV (by assumption) (by first | decide | omega) | ((try simp only [units_in1, units_deeper, Around.mark_units, units_caller]); (try dsimp only [ktrTop]); omega))) | fail "no") ?_); intro h9 tk9 F9 N9; (try k_unfold); (try dsimp only); (try k_fold)))
  (k_with "eval ListComp" => (k_here; (with_unfolding_all refine' comp_eval (by first | (exact rfl) | fail "no") (by first | (exact rfl) | fail "no") (by first | (decide) | fail "no") (by first | (exact rfl) | fail "no") (by first | (decide) | fail "no") (by first | (exact rfl) | fail "no") ?_ (by first | ((intro _; rfl)) | fail "no"); k_whole)))
  trivial

set_option maxRecDepth 100000 in
set_option maxHeartbeats 8000000 in
theorem ends_cho {cs₁ : Cs} {sz : Nat} (hT : ∀ b ∈ cs₁.bodies, TermAt w mean mg mb b ∧ b.sz ≤ sz) {a₁ k₁ : Addr} {n n' : Nat} {t : Tok} {v1 lv : Value} {l : Option Str} {vs : List Value} (h : (a₁, tupO [.str "choose" t, v1, lv, .ref k₁] n) ∈ news) (hl : LabIn lv l) (hk₁ : (k₁, tupO vs n') ∈ news) (hC : CsIn news vs cs₁) :
    Call w mean mg mb (6 * sz + 16) 88 [.ref a₁] news fun r tl => tl = [] ∧ r = .bool (casesEnd cs₁ l) := by
  intro dp un gd cn cs a ccd cl outer A₀ base h₀ L m sH sG sD sT sO Q E B F X N T hk hdp hun ret
  refine wpAny_call ?_
  k_dflt ktr_enter
  k_steps
  rename Fr _ _ _ _ => F9
  rename News _ _ _ _ => N9
  have N8 : News _ _ _ news := news_sub N9 (by first | exact sub_t1 | exact sub_t2 | exact sub_t3 | exact sub_t4 | exact sub_t5)
  refine Held.intro ?_
  try k_fold
  refine (iter_tup ["row"] (fun i nx => nx = news ∧ ∀ j b, j < i → cs₁.bodies[j]? = some b → ((fallLast b || terms b) && !hbs b l true) = true) (by exact rfl) (fun i nx h => by rw [h.1]; exact hk₁) F9 N8 ⟨rfl, fun _ _ h => absurd h (Nat.not_lt_zero _)⟩ ?_ ?_)
  · intro i2 v2 u2 nx2 h2 tk2 own2 hv2 hP9 hoff2 F2 N2
    try k_fold
    obtain ⟨rfl, hpre2⟩ := hP9
    obtain ⟨a', k', m1, m2, dv, d, us, b, rfl, g1, g2, g3, g4, g5⟩ := hC.get hv2
    have f1 := sub_left (a := own2) _ g1
    have f3 := sub_left (a := own2) _ g3
    have f4 := StsIn.mono (sub_left (a := own2)) g4
    obtain ⟨hA, hsz⟩ := hT b (List.mem_of_getElem? g5)
    clear F9 N9 N8 g1 g3
    try k_fold
    k_steps
    · rename (fallLast b || terms b) = true => he1
      rename hbs b l true = true => he2
      exact ret _ [] _ _ (by assumption) (news_sub (by assumption) sub_left) (fun _ h => (nomatch h)) ⟨rfl, congrArg Value.bool (cases_no g5 (by rw [he1, he2]; rfl)).symm⟩
    · rename (fallLast b || terms b) = true => he1
      rename hbs b l true = false => he2
      exact ⟨_, _, _, _, rfl, by assumption, by assumption, hoff2, Same.put (by decide) (Same.lost (by decide) Same.refl), rfl, step_pre hpre2 g5 (by rw [he1, he2]; rfl)⟩
    · rename (fallLast b || terms b) = false => he1
      exact ret _ [] _ _ (by assumption) (news_sub (by assumption) sub_left) (fun _ h => (nomatch h)) ⟨rfl, congrArg Value.bool (cases_no g5 (by rw [he1]; rfl)).symm⟩
  · intro u2 nx2 h2 tk2 hP9 F2 N2
    try k_fold
    obtain ⟨rfl, hJ2⟩ := hP9
    clear F9 N9 N8
    try k_fold
    k_steps
    exact ret _ [] _ _ (by assumption) (by assumption) (fun _ h => (nomatch h)) ⟨rfl, congrArg Value.bool (cases_yes (all_pre hJ2 (Nat.le_of_eq hC.length.symm))).symm⟩
set_option maxRecDepth 100000 in
set_option maxHeartbeats 8000000 in
theorem ends_sw {cs₁ : Cs} {sz : Nat} (hT : ∀ b ∈ cs₁.bodies, TermAt w mean mg mb b ∧ b.sz ≤ sz) {a₁ k₁ : Addr} {n n' : Nat} {t : Tok} {v1 v3 v4 lv : Value} {l : Option Str} {vs : List Value} (h : (a₁, tupO [.str "switch" t, v1, lv, v3, v4, .ref k₁] n) ∈ news) (hl : LabIn lv l) (hk₁ : (k₁, tupO vs n') ∈ news) (h8 : vs.length ≤ 8) (hC : CsIn news vs cs₁) :
    Call w mean mg mb (6 * sz + 16) 88 [.ref a₁] news fun r tl => tl = [] ∧ r = .bool (cs₁.hasDef && casesEnd cs₁ l) := by
  intro dp un gd cn cs a ccd cl outer A₀ base h₀ L m sH sG sD sT sO Q E B F X N T hk hdp hun ret
  refine wpAny_call ?_
  k_dflt ktr_enter
  k_steps
  rename Fr _ _ _ _ => F9
  rename News _ _ _ _ => N9
  have N8 : News _ _ _ news := news_sub N9 (by first | exact sub_t1 | exact sub_t2 | exact sub_t3 | exact sub_t4 | exact sub_t5)
  refine Held.intro ⟨k₁, vs, fun i ys tl => tl = [] ∧ ys.isEmpty = !((cs₁.defs.take i).any id), rfl, .inl ⟨_, (N8 (k₁, tupO vs n') hk₁).1, rfl, n', rfl⟩, Nat.le_trans h8 (by decide), ⟨rfl, rfl⟩, ?_, ?_⟩
  · intro C i v ys tl s₃ mC E' hv hCs hG hn hm hkp ht
    obtain ⟨a', k', m1, dv, d, rfl, g1, g2, g3⟩ := hC.getD hv
    have F8 := frInComp hn hkp hCs
    have N7 := News.grown N8 hkp
    refine wpAny_tests_one ?_
    clear N8 N9
    cases g2
    · k_steps
      refine Held.intro ⟨⟨s₃.heap, _, rfl, fun _ _ e => e⟩, ?_⟩
      rw [if_pos rfl]
      try k_fold
      k_steps
      exact Held.intro ⟨⟨s₃.heap, _, rfl, fun _ _ e => e⟩, [], fun _ h => (nomatch h), hG.1, by rw [any_take g3]; simp⟩
    · k_steps
      refine Held.intro ⟨⟨s₃.heap, _, rfl, fun _ _ e => e⟩, ?_⟩
      rw [if_neg (by decide)]
      exact ⟨hG.1, by rw [any_take g3, hG.2]; simp⟩
  · intro D h' tk ys tl k hD hG hkp hDo ht
    have F8 := Fr.keeps F9 hkp
    have N7 := news_new F9 N8 hD hkp hDo
    have hdef : ys.isEmpty = !cs₁.hasDef := by rw [hG.2, hC.lengthD, List.take_length, hasDef_any]
    clear ht hDo N8 N9 F9 hG
    try k_fold
    k_steps
    · rename ys.isEmpty = true => he
      exact ret _ [] _ _ (by assumption) (news_sub (by assumption) (by first | exact sub_t1 | exact sub_t2 | exact sub_t3)) (fun _ h => (nomatch h)) ⟨rfl, congrArg Value.bool (by rw [hdef] at he; rw [show cs₁.hasDef = false from by simpa using he]; rfl)⟩
    have hd1 : cs₁.hasDef = true := by
      rename ys.isEmpty = false => he
      rw [hdef] at he; simpa using he
    (try clear F8); (try clear N7)
    rename Fr _ _ _ _ => F9
    rename News _ _ _ _ => N9
    have N8 : News _ _ _ news := news_sub N9 (by first | exact sub_t1 | exact sub_t2 | exact sub_t3 | exact sub_t4 | exact sub_t5)
    refine Held.intro ?_
    try k_fold
    refine (iter_tup ["row"] (fun i nx => nx = news ∧ ∀ j b, j < i → cs₁.bodies[j]? = some b → ((fallLast b || terms b) && !hbs b l true) = true) (by exact rfl) (fun i nx h => by rw [h.1]; exact hk₁) F9 N8 ⟨rfl, fun _ _ h => absurd h (Nat.not_lt_zero _)⟩ ?_ ?_)
    · intro i2 v2 u2 nx2 h2 tk2 own2 hv2 hP9 hoff2 F2 N2
      try k_fold
      obtain ⟨rfl, hpre2⟩ := hP9
      obtain ⟨a', k', m1, m2, dv, d, us, b, rfl, g1, g2, g3, g4, g5⟩ := hC.get hv2
      have f1 := sub_left (a := own2) _ g1
      have f3 := sub_left (a := own2) _ g3
      have f4 := StsIn.mono (sub_left (a := own2)) g4
      obtain ⟨hA, hsz⟩ := hT b (List.mem_of_getElem? g5)
      clear F9 N9 N8 g1 g3
      try k_fold
      k_steps
      · rename (fallLast b || terms b) = true => he1
        rename hbs b l true = true => he2
        exact ret _ [] _ _ (by assumption) (news_sub (by assumption) sub_left) (fun _ h => (nomatch h)) ⟨rfl, congrArg Value.bool (by rw [cases_no g5 (by rw [he1, he2]; rfl), Bool.and_false])⟩
      · rename (fallLast b || terms b) = true => he1
        rename hbs b l true = false => he2
        exact ⟨_, _, _, _, rfl, by assumption, by assumption, hoff2, Same.put (by decide) (Same.lost (by decide) Same.refl), rfl, step_pre hpre2 g5 (by rw [he1, he2]; rfl)⟩
      · rename (fallLast b || terms b) = false => he1
        exact ret _ [] _ _ (by assumption) (news_sub (by assumption) sub_left) (fun _ h => (nomatch h)) ⟨rfl, congrArg Value.bool (by rw [cases_no g5 (by rw [he1]; rfl), Bool.and_false])⟩
    · intro u2 nx2 h2 tk2 hP9 F2 N2
      try k_fold
      obtain ⟨rfl, hJ2⟩ := hP9
      clear F9 N9 N8
      try k_fold
      k_steps
      exact ret _ [] _ _ (by assumption) (by assumption) (fun _ h => (nomatch h)) ⟨rfl, congrArg Value.bool (by rw [hd1, cases_yes (all_pre hJ2 (Nat.le_of_eq hC.length.symm))]; rfl)⟩
end
end
section
set_option tactic.hygienic false
theorem ln24 : True := by
  k_with_none
  (k_with "room" => first | exact roomE (by assumption) | exact roomD (by assumption) (by first | decide | omega) | ((try simp only [depth_mark, depth_under_make, depth_under_kw, depth_in1, depth_deeper, depth_caller]); (try dsimp only [ktrTop]); omega))
  (k_with "mem" => first | exact List.mem_cons_self | (refine List.mem_cons_of_mem _ ?_; first | ktr_member | k_mem))
  (k_with "enter" => (refine' code_def (by first | (k_asm) | fail "no") (by first | (k_asm) | fail "no") (by first | (k_asm) | fail "no") (by first | (k_asm) | fail "no") (by first | (k_asm) | fail "no") (by first | (exact rfl) | fail "no") (by first | (exact rfl) | fail "no") (by first | (first | exact rfl | assumption) | fail "no") (by first | (k_is) | fail "no") (by first | (k_is) | fail "no") (by first | (k_room) | fail "no") (by first | (first | exact BindsTo.of_eq rfl | exact binds_K (by k_in) rfl (by k_is) rfl rfl rfl) | fail "no") (by first | (exact locs rfl) | fail "no") ?_ (by first | (exact rfl) | fail "no") (by first | (exact rfl) | fail "no") (by first | (exact rfl) | fail "no") (by first | (decide) | fail "no"); k_whole; intro g' L' h' FG' F' N' B' X' T'; (try dsimp only); (try k_fold); (try (refine (let en9 := _; let ar9 := Around.deeper _ en9; (?_ : wpAny _ ar9 (execs _ en9) _ _ _))))))
  (k_with "exec For Name Name cons nil" => (k_here; (rename Fr _ _ _ _ => lF'); (with_unfolding_all refine' For_invVF lF' (by first | (exact rfl) | fail "no") (by first | (exact rfl) | fail "no") ?_; k_whole)))
  (k_with "exec For Name Call cons nil" => (k_here; (rename Fr _ _ _ _ => lF'); (with_unfolding_all refine' For_invVF lF' (by first | (exact rfl) | fail "no") (by first | (exact rfl) | fail "no") ?_; k_whole)))
  (k_with "pyIter ref" => (refine Held.out ?_))
  (k_with "subscriptTail" => (k_here; (with_reducible show wpAny _ _ (subscriptTail _ _ (Value.ref _) (Value.int 0 _)) _ _ _); k_dflt (refine' item0 (by first | (exact News.isTup (by k_asm) (by k_mem)) | fail "no") ?_ (by first | (with_unfolding_all rfl) | fail "no"); k_whole)))
  (k_with "compareOp NotIn str ref" => (k_here; (with_reducible show wpAny _ _ (compareOp CmpOp.NotIn (Value.str _ _) (Value.ref _)) _ _ _); (with_unfolding_all refine' notin_tuple_strs (by first | ((refine' tupK (by first | (k_in) | fail "no") (by first | (k_dflt k_is) | fail "no"))) | fail "no") (by first | (repeat constructor) | fail "no") ?_; k_whole)))
  (k_with "ite" => (refine ite_no (by first | ((simp only [beq_eq_false_iff_ne, ne_eq]; assumption)) | fail "no") ?_))
  (k_with "TurnPost" => (dsimp only [TurnPost]))
  trivial

theorem ln25 : True := by
  (k_with "fold" => (first | (fail_if_success k_fold) | (refine (let qk : _ → Shared → Prop := _; (?_ : wpAny _ _ _ qk _ _)))))
  (k_with "ite" => (refine ite_yes2 (by first | ((simp only [bne_iff_ne, ne_eq]; assumption)) | fail "no") ?_))
  (k_with "subscriptTail" => (k_here; (with_reducible show wpAny _ _ (subscriptTail _ _ (Value.ref _) (Value.int (-1) _)) _ _ _); k_dflt (refine' item_last (by first | (exact News.isTup (by k_asm) (by k_mem)) | fail "no") (by first | (assumption) | fail "no") ?_ (by first | (with_unfolding_all rfl) | fail "no"); k_whole)))
  trivial

/-- a call of ends_by_cases on one statement -/
noncomputable def EndsAt (w : World) (mean : ExcName → Option Value) (mg mb : Str → Option Value) (sz : Nat) (a : Addr) (news : List (Addr × Obj)) (r : Bool) : Prop :=
  ∀ news', (∀ p ∈ news, p ∈ news') → Call w mean mg mb (6 * sz + 16) 88 [.ref a] news' fun v tl => tl = [] ∧ v = .bool r
theorem EndsAt.use {w : World} {mean : ExcName → Option Value} {mg mb : Str → Option Value} {sz : Nat} {a : Addr} {news news' : List (Addr × Obj)} {r : Bool} (h : EndsAt w mean mg mb sz a news r) (hs : ∀ p ∈ news, p ∈ news') : Call w mean mg mb (6 * sz + 16) 88 [.ref a] news' fun v tl => tl = [] ∧ v = .bool r := h _ hs
theorem TermAt.go {w : World} {mean : ExcName → Option Value} {mg mb : Str → Option Value} {b : Sts} {k : Addr} {n : Nat} {vs : List Value} {news : List (Addr × Obj)} (h2 : (k, tupO vs n) ∈ news) (h3 : StsIn news vs b) (h : TermAt w mean mg mb b) :
    Call w mean mg mb (6 * b.sz + 12) 95 [.ref k] news fun r tl => tl = [] ∧ r = .bool (terms b) := h _ _ _ _ h2 h3
theorem ln26 : True := by
  (k_with "call ref" => (k_here; (with_reducible show wpAny _ _ (call (Value.ref 69) _) _ _ _); (try k_extra "fold"); k_dflt (refine' Call.go0 (by first | (k_asm) | fail "no") (by first | (k_asm) | fail "no") (by first | (k_asm) | fail "no") (by first | (k_asm) | fail "no") (by first | (k_asm) | fail "no") (by first | (first | exact rfl | assumption) | fail "no") (HbAt2.use (has_break2_spec _) (by first | (assumption) | fail "no") (by first | (k_mem) | fail "no") (by first | (assumption) | fail "no")) (by first | (k_room) | fail "no") (by first | ((first | exact roomU (by assumption) (by first | decide | omega) | exact roomV (by assumption) (by first | decide | omega) | ((try simp only [units_in1, units_deeper, Around.mark_units, units_caller]); (try dsimp only [ktrTop]); omega))) | fail "no") ?_); intro h9 tk9 F9 N9; (try k_unfold); (try dsimp only); (try k_extra "fold")))
  (k_with "call ref" => (k_here; (with_reducible show wpAny _ _ (call (Value.ref 95) _) _ _ _); (try k_extra "fold"); k_dflt (refine' Call.go0 (by first | (k_asm) | fail "no") (by first | (k_asm) | fail "no") (by first | (k_asm) | fail "no") (by first | (k_asm) | fail "no") (by first | (k_asm) | fail "no") (by first | (first | exact rfl | assumption) | fail "no") (TermAt.go (by first | (k_mem) | fail "no") (by first | (first | assumption | exact StsIn.mono sub_t1 (by assumption) | apply_assumption) | fail "no") (by first | (assumption) | fail "no")) (by first | (k_room) | fail "no") (by first | ((first | exact roomU (by assumption) (by first | decide | omega) | exact roomV (by assumption) (by first | decide | omega) | ((try simp only [units_in1, units_deeper, Around.mark_units, units_caller]); (try dsimp only [ktrTop]); omega))) | fail "no") ?_); intro h9 tk9 F9 N9; (try k_unfold); (try dsimp only); (try k_extra "fold")))
  (k_with "call ref" => (k_here; (with_reducible show wpAny _ _ (call (Value.ref 76) _) _ _ _); (try k_extra "fold"); k_dflt (refine' Call.go0 (by first | (k_asm) | fail "no") (by first | (k_asm) | fail "no") (by first | (k_asm) | fail "no") (by first | (k_asm) | fail "no") (by first | (k_asm) | fail "no") (by first | (first | exact rfl | assumption) | fail "no") (is_panic_spec (by first | (assumption) | fail "no")) (by first | (k_room) | fail "no") (by first | ((first | exact roomU (by assumption) (by first | decide | omega) | exact roomV (by assumption) (by first | decide | omega) | ((try simp only [units_in1, units_deeper, Around.mark_units, units_caller]); (try dsimp only [ktrTop]); omega))) | fail "no") ?_); intro h9 tk9 F9 N9; (try k_unfold); (try dsimp only); (try k_extra "fold")))
  (k_with "call ref" => (k_here; (with_reducible show wpAny _ _ (call (Value.ref 88) _) _ _ _); (try k_extra "fold"); k_dflt (refine' Call.go0 (by first | (k_asm) | fail "no") (by first | (k_asm) | fail "no") (by first | (k_asm) | fail "no") (by first | (k_asm) | fail "no") (by first | (k_asm) | fail "no") (by first | (first | exact rfl | assumption) | fail "no") (EndsAt.use (by first | (assumption) | fail "no") (by first | (first | exact sub_self | exact sub_t1 | exact sub_t2 | exact sub_t3) | fail "no")) (by first | (k_room) | fail "no") (by first | ((first | exact roomU (by assumption) (by first | decide | omega) | exact roomV (by assumption) (by first | decide | omega) | ((try simp only [units_in1, units_deeper, Around.mark_units, units_caller]); (try dsimp only [ktrTop]); omega))) | fail "no") ?_); intro h9 tk9 F9 N9; (try k_unfold); (try dsimp only); (try k_extra "fold")))
  (k_with "call builtin:len" => (k_here; (with_reducible show wpAny _ _ (call (Value.builtin "len") [Value.ref _]) _ _ _); k_dflt (refine' len_tuple (by first | (exact News.isTup (by k_asm) (by k_mem)) | fail "no") (by first | ((simp only [List.size_toArray]; omega)) | fail "no") ?_)))
  (k_with "ite" => (refine ite_no (by first | ((simp only [List.size_toArray, beq_eq_false_iff_ne, ne_eq]; omega)) | fail "no") ?_))
  (k_with "ite" => (refine ite_no (by first | ((simp only [List.any_cons, List.any_nil, Bool.or_false, Bool.or_eq_false_iff, beq_eq_false_iff_ne, ne_eq]; refine ⟨?_, ?_, ?_⟩ <;> exact Ne.symm (by assumption))) | fail "no") ?_))
  trivial

theorem toList_le_sz : ∀ b : Sts, b.toList.length ≤ b.sz
  | .nil => Nat.le_refl _
  | .cons s r => by
    have := toList_le_sz r
    have h1 : 1 ≤ s.sz := by cases s <;> rw [St.sz] <;> omega
    rw [Sts.toList, List.length_cons, Sts.sz]; omega
theorem ln27 : True := by
  (k_with "subscriptTail Name Constant ref int" => ((rename Mark9 => lM9); (first | (with_reducible show wpAny _ _ (subscriptTail _ _ (Value.ref _) (Value.int 2 _)) _ _ _) | (with_reducible show wpAny _ _ (subscriptTail _ _ (Value.ref _) (Value.int 4 _)) _ _ _) | (with_reducible show wpAny _ _ (subscriptTail _ _ (Value.ref _) (Value.int 5 _)) _ _ _)); refine Held.out ?_))
  (k_with "call ref" => ((rename Mark9 => lM9); (with_reducible show wpAny _ _ (call (Value.ref 88) _) _ _ _); refine Held.out ?_))
  trivial

theorem St.term_ret {st : St} (h : (st.kind == Str.ofString "return") = true) : term1 st = true := by
  cases st <;> first | rfl | exact absurd h (by dsimp only [St.kind]; decide)
theorem St.term_pan {st : St} (h : st.pan = true) : term1 st = true := by
  cases st <;> first | exact h | exact absurd h Bool.false_ne_true
theorem St.is_blk {st : St} (h : (st.kind == Str.ofString "block") = true) : ∃ b, st = .blk b := by
  cases st <;> first | exact ⟨_, rfl⟩ | exact absurd h (by dsimp only [St.kind]; decide)
theorem St.is_if {st : St} (h : (st.kind == Str.ofString "if") = true) : (∃ b, st = .if1 b) ∨ ∃ b e, st = .if2 b e := by
  cases st <;> first | exact .inl ⟨_, rfl⟩ | exact .inr ⟨_, _, rfl⟩ | exact absurd h (by dsimp only [St.kind]; decide)
theorem St.is_for {st : St} (h : (st.kind == Str.ofString "for") = true) : ∃ l c b, st = .for_ l c b := by
  cases st <;> first | exact ⟨_, _, _, rfl⟩ | exact absurd h (by dsimp only [St.kind]; decide)
theorem St.is_cases {st : St} (h : ([Str.ofString "switch", Str.ofString "typeswitch", Str.ofString "choose"].any fun x => x == st.kind) = true) : (∃ l cs, st = .sw l cs) ∨ ∃ l cs, st = .cho l cs := by
  cases st <;> first | exact .inl ⟨_, _, rfl⟩ | exact .inr ⟨_, _, rfl⟩ | exact absurd h (by dsimp only [St.kind]; decide)
theorem St.term_no {st : St} (h1 : (st.kind == Str.ofString "return") = false) (hp : st.pan = false) (h2 : (st.kind == Str.ofString "block") = false) (h3 : (st.kind == Str.ofString "if") = false) (h4 : (st.kind == Str.ofString "for") = false)
    (h5 : ([Str.ofString "switch", Str.ofString "typeswitch", Str.ofString "choose"].any fun x => x == st.kind) = false) : term1 st = false := by
  cases st <;> first | rfl | exact hp | exact absurd h1 (by dsimp only [St.kind]; decide) | exact absurd h2 (by dsimp only [St.kind]; decide) | exact absurd h3 (by dsimp only [St.kind]; decide) | exact absurd h4 (by dsimp only [St.kind]; decide) | exact absurd h5 (by dsimp only [St.kind]; decide)
theorem StIn.blkI {news : List (Addr × Obj)} {a : Addr} {b : Sts} (h : StIn news (.ref a) (.blk b)) : BlkIn news a b := by cases h; assumption
section
variable {w : World} {mean : ExcName → Option Value} {mg mb : Str → Option Value}
set_option maxRecDepth 100000 in
set_option maxHeartbeats 8000000 in
theorem is_terminating_step (b : Sts) (IH : ∀ b' : Sts, b'.sz < b.sz → TermAt w mean mg mb b') : TermAt w mean mg mb b := by
  intro k n vs news hm hs
  intro dp un gd cn cs a ccd cl outer A₀ base h₀ L m sH sG sD sT sO Q E B F X N T hk hdp hun ret
  cases hv : vs.getLast? with
  | none =>
    obtain ⟨rfl, hb0⟩ := hs.none hv
    refine wpAny_call ?_
    k_dflt ktr_enter
    k_steps
    exact ret _ [] _ _ (by assumption) (by assumption) (fun _ h => (nomatch h)) ⟨rfl, congrArg Value.bool (by rw [hb0]; rfl)⟩
  | some v =>
    obtain ⟨st, h1, h2, h3⟩ := hs.lastIn hv
    have hsz := sz_toList h3
    have ht : terms b = term1 st := by rw [terms_last, h1]
    have hpos : 0 < vs.length := List.length_pos_iff.mpr fun e => by rw [e] at hv; cases hv
    have hlen : vs.length < 1000 := by
      have h9 := toList_le_sz b
      rw [← hs.length] at h9
      have h8 : recursionLimit = 1000 := rfl
      omega
    obtain ⟨a₁, n₁, t₁, r₁, rfl, g⟩ := h2.tup
    have mk9 : Mark9 := trivial
    refine wpAny_call ?_
    k_dflt ktr_enter
    k_steps
    · rename (St.kind _ == Str.ofString "return") = true => he
      exact ret _ [] _ _ (by assumption) (news_sub (by assumption) (by first | exact sub_self | exact sub_t1 | exact sub_t2 | exact sub_t3)) (fun _ h => (nomatch h)) ⟨rfl, congrArg Value.bool (by rw [ht, St.term_ret he])⟩
    · rename St.pan _ = true => he
      exact ret _ [] _ _ (by assumption) (news_sub (by assumption) (by first | exact sub_self | exact sub_t1 | exact sub_t2 | exact sub_t3)) (fun _ h => (nomatch h)) ⟨rfl, congrArg Value.bool (by rw [ht, St.term_pan he])⟩
    · rename (St.kind _ == Str.ofString "block") = true => he
      refine Held.intro ?_
      try k_extra "fold"
      obtain ⟨b1, e1⟩ := St.is_blk he
      have hz : b1.sz < b.sz := by rw [e1, St.sz] at hsz; exact hsz
      have hA := IH b1 hz
      obtain ⟨g1, g2, g3⟩ := StIn.blkI (e1 ▸ h2)
      rename Mark9 => mk8
      clear mk8 g
      k_steps
      exact ret _ [] _ _ (by assumption) (news_sub (by assumption) (by first | exact sub_self | exact sub_t1 | exact sub_t2 | exact sub_t3)) (fun _ h => (nomatch h)) ⟨rfl, congrArg Value.bool (by rw [ht, e1, term1])⟩
    · rename (St.kind _ == Str.ofString "if") = true => he
      refine Held.intro ?_
      try k_extra "fold"
      rename Mark9 => mk8
      clear mk8 g
      rcases St.is_if he with ⟨b1, rfl⟩ | ⟨b1, e1, rfl⟩
      · cases h2 with
        | if1 g gB =>
          k_steps
          all_goals exact ret _ [] _ _ (by assumption) (news_sub (by assumption) (by first | exact sub_self | exact sub_t1 | exact sub_t2 | exact sub_t3)) (fun _ h => (nomatch h)) ⟨rfl, congrArg Value.bool (by rw [ht, term1])⟩
      · have hz : b1.sz + e1.sz + 2 ≤ b.sz := by rw [St.sz] at hsz; exact hsz
        obtain ⟨be, hbe⟩ : ∃ be, be = Sts.cons e1 .nil := ⟨_, rfl⟩
        have hz2 : be.sz = e1.sz := by rw [hbe, Sts.sz, Sts.sz]; rfl
        have hA := IH b1 (by omega)
        have hA2 := IH be (by omega)
        have ht2 : terms be = term1 e1 := by rw [hbe, terms]
        cases h2 with
        | if2 g gB gE =>
          have hS2 : ∀ x, StsIn (x :: news) [.ref _] be := fun x => hbe ▸ StsIn.cons (StIn.mono sub_t1 gE) StsIn.nil
          obtain ⟨g1, g2, g3⟩ := gB
          k_steps
          all_goals first
          | (rename terms b1 = true => he
             exact ret _ [] _ _ (by assumption) (news_sub (by assumption) (by first | exact sub_self | exact sub_t1 | exact sub_t2 | exact sub_t3)) (fun _ h => (nomatch h)) ⟨rfl, congrArg Value.bool (by rw [ht, term1, ht2, he]; rfl)⟩)
          | (rename terms b1 = false => he
             exact ret _ [] _ _ (by assumption) (news_sub (by assumption) (by first | exact sub_self | exact sub_t1 | exact sub_t2 | exact sub_t3)) (fun _ h => (nomatch h)) ⟨rfl, congrArg Value.bool (by rw [ht, term1, he]; rfl)⟩)
    · rename (St.kind _ == Str.ofString "for") = true => he
      refine Held.intro ?_
      try k_extra "fold"
      rename Mark9 => mk8
      clear mk8 g
      obtain ⟨l1, c1, b1, rfl⟩ := St.is_for he
      have hz : b1.sz < b.sz := by rw [St.sz] at hsz; exact hsz
      cases h2 with
      | for_ g gl gc gB =>
        obtain ⟨g1, g2, g3⟩ := gB
        cases gc
        all_goals (
          k_steps
          all_goals exact ret _ [] _ _ (by assumption) (news_sub (by assumption) (by first | exact sub_self | exact sub_t1 | exact sub_t2 | exact sub_t3)) (fun _ h => (nomatch h)) ⟨rfl, congrArg Value.bool (by rw [ht, term1]; rfl)⟩)
    · rename (List.any _ _) = true => he
      refine Held.intro ?_
      try k_extra "fold"
      rename Mark9 => mk8
      clear mk8 g
      rcases St.is_cases he with ⟨l1, cs1, rfl⟩ | ⟨l1, cs1, rfl⟩
      · have hz : cs1.sz < b.sz := by rw [St.sz] at hsz; exact hsz
        have hE : EndsAt w mean mg mb cs1.sz a₁ news (cs1.hasDef && casesEnd cs1 l1) := by
          cases h2 with
          | sw g gl gk gz gC => exact fun news' hs' => ends_sw (fun b' hb' => ⟨IH b' (Nat.lt_of_le_of_lt (sz_bodies hb') hz), sz_bodies hb'⟩) (hs' _ g) gl (hs' _ gk) gz (CsIn.mono hs' gC)
        k_steps
        exact ret _ [] _ _ (by assumption) (news_sub (by assumption) (by first | exact sub_self | exact sub_t1 | exact sub_t2 | exact sub_t3)) (fun _ h => (nomatch h)) ⟨rfl, congrArg Value.bool (by rw [ht, term1])⟩
      · have hz : cs1.sz < b.sz := by rw [St.sz] at hsz; exact hsz
        have hE : EndsAt w mean mg mb cs1.sz a₁ news (casesEnd cs1 l1) := by
          cases h2 with
          | cho g gl gk gz gC => exact fun news' hs' => ends_cho (fun b' hb' => ⟨IH b' (Nat.lt_of_le_of_lt (sz_bodies hb') hz), sz_bodies hb'⟩) (hs' _ g) gl (hs' _ gk) (CsIn.mono hs' gC)
        k_steps
        exact ret _ [] _ _ (by assumption) (news_sub (by assumption) (by first | exact sub_self | exact sub_t1 | exact sub_t2 | exact sub_t3)) (fun _ h => (nomatch h)) ⟨rfl, congrArg Value.bool (by rw [ht, term1])⟩
    · rename (St.kind _ == Str.ofString "return") = false => h1'
      rename (St.kind _ == Str.ofString "block") = false => h2'
      rename (St.kind _ == Str.ofString "if") = false => h3'
      rename (St.kind _ == Str.ofString "for") = false => h4'
      rename (List.any _ _) = false => h5'
      rename St.pan _ = false => hp'
      exact ret _ [] _ _ (by assumption) (news_sub (by assumption) (by first | exact sub_self | exact sub_t1 | exact sub_t2 | exact sub_t3)) (fun _ h => (nomatch h)) ⟨rfl, congrArg Value.bool (by rw [ht, St.term_no h1' hp' h2' h3' h4' h5'])⟩
theorem is_terminating_all : ∀ n, ∀ b : Sts, b.sz < n → TermAt w mean mg mb b
  | 0, _, h => absurd h (Nat.not_lt_zero _)
  | n + 1, b, h => is_terminating_step b fun b' h' => is_terminating_all n b' (Nat.lt_of_lt_of_le h' (Nat.le_of_lt_succ h))
theorem is_terminating_spec (b : Sts) : TermAt w mean mg mb b := is_terminating_all _ b (Nat.lt_succ_self _)
end
end
section
set_option tactic.hygienic false
theorem ln28 : True := by
  k_with_none
  (k_with "room" => first | exact roomE (by assumption) | exact roomD (by assumption) (by first | decide | omega) | ((try simp only [depth_mark, depth_under_make, depth_under_kw, depth_in1, depth_deeper, depth_caller]); (try dsimp only [ktrTop]); omega))
  (k_with "mem" => first | exact List.mem_cons_self | (refine List.mem_cons_of_mem _ ?_; first | ktr_member | k_mem))
  (k_with "enter" => (refine' code_def (by first | (k_asm) | fail "no") (by first | (k_asm) | fail "no") (by first | (k_asm) | fail "no") (by first | (k_asm) | fail "no") (by first | (k_asm) | fail "no") (by first | (exact rfl) | fail "no") (by first | (exact rfl) | fail "no") (by first | (first | exact rfl | assumption) | fail "no") (by first | (k_is) | fail "no") (by first | (k_is) | fail "no") (by first | (k_room) | fail "no") (by first | (first | exact BindsTo.of_eq rfl | exact binds_K (by k_in) rfl (by k_is) rfl rfl rfl) | fail "no") (by first | (exact locs rfl) | fail "no") ?_ (by first | (exact rfl) | fail "no") (by first | (exact rfl) | fail "no") (by first | (exact rfl) | fail "no") (by first | (decide) | fail "no"); k_whole; intro g' L' h' FG' F' N' B' X' T'; (try dsimp only); (try k_fold); (try (refine (let en9 := _; let ar9 := Around.deeper _ en9; (?_ : wpAny _ ar9 (execs _ en9) _ _ _))))))
  (k_with "exec For Name Name cons nil" => (k_here; (rename Fr _ _ _ _ => lF'); (with_unfolding_all refine' For_invVF lF' (by first | (exact rfl) | fail "no") (by first | (exact rfl) | fail "no") ?_; k_whole)))
  (k_with "exec For Name Call cons nil" => (k_here; (rename Fr _ _ _ _ => lF'); (with_unfolding_all refine' For_invVF lF' (by first | (exact rfl) | fail "no") (by first | (exact rfl) | fail "no") ?_; k_whole)))
  (k_with "pyIter ref" => (refine Held.out ?_))
  (k_with "subscriptTail" => (k_here; (with_reducible show wpAny _ _ (subscriptTail _ _ (Value.ref _) (Value.int 0 _)) _ _ _); k_dflt (refine' item0 (by first | (exact News.isTup (by k_asm) (by k_mem)) | fail "no") ?_ (by first | (with_unfolding_all rfl) | fail "no"); k_whole)))
  (k_with "compareOp NotIn str ref" => (k_here; (with_reducible show wpAny _ _ (compareOp CmpOp.NotIn (Value.str _ _) (Value.ref _)) _ _ _); (with_unfolding_all refine' notin_tuple_strs (by first | ((refine' tupK (by first | (k_in) | fail "no") (by first | (k_dflt k_is) | fail "no"))) | fail "no") (by first | (repeat constructor) | fail "no") ?_; k_whole)))
  (k_with "ite" => (refine ite_no (by first | ((simp only [beq_eq_false_iff_ne, ne_eq]; assumption)) | fail "no") ?_))
  (k_with "TurnPost" => (dsimp only [TurnPost]))
  trivial

open Builtin Builtin.ObjectAttr

noncomputable abbrev excAt (t : Addr) : Obj := { cls := .ref 45, data := .fields #[.ref t, .none, .none, .none, .bool false, .none] }
noncomputable abbrev excMro : List Value := [.ref 32, .type "Exception", .type "BaseException", .type "object"]

section
variable {prog : Program} {w : World} {A : Around} {E : Value → Shared → Prop} {R : Result → Shared → Prop} {h : Heap} {g : Array GenState} {d : Drawn} {t : Nat} {os : OsState}
variable {nm q : Str} {C N : Addr} {bs bm : List Value} {hdct : Bool} {sn : List Str} {sub : List Value} {ab : Bool} {col : Option Bool} {dd : Option Addr} {k0 k1 k2 k3 k5 : Option Value}

set_option maxRecDepth 100000 in
theorem exc_check_new (hcB : (Value.ref C :: bm).contains (.type "Exception") = true) {rest : List Value} {Q : Unit → Shared → Prop} (hC : h.get? C = some (excClassObj nm q C N bs bm hdct sn sub ab col dd k0 k1 k2 k3 k5 "Exception.__new__"))
    (hq : Q () ⟨h, g, d, t, os⟩) : wpAny (model prog w) A (checkBuiltinCall "Exception.__new__" ⟨.ref C :: rest, []⟩) Q E ⟨h, g, d, t, os⟩ := by
  have Fn := PySem.F.excBase_Exception
  have hstar := Fn.noStar
  simp only [checkBuiltinCall, Fn.newKind, Fn.newSplit, Fn.newRow]
  repeat (first | refine wpAny_loadPart_at hC ?_ | (refine wpAny_isSubtype_exc hC ?_; rw [hcB]) | refine wpAny_staticBase_exc hC ?_ | refine wpAny_madeBy_exc hC ?_ | simp only [bne_self_eq_false, Bool.false_eq_true, if_false] | wp_step)
  exact hq
set_option maxRecDepth 100000 in
theorem exc_new (hcB : (Value.ref C :: bm).contains (.type "Exception") = true) (hcA : (Value.ref C :: bm).contains (.type "AttributeError") = false) (hcN : (Value.ref C :: bm).contains (.type "NameError") = false) {rest : List Value}
    (hC : h.get? C = some (excClassObj nm q C N bs bm hdct sn sub ab col dd k0 k1 k2 k3 k5 "Exception.__new__"))
    (hq : R (.ok (.ret (.ref (h.objs.size + 1)))) ⟨(h.push { cls := .type "tuple", data := .seq rest.toArray }).push
      { cls := .ref C, data := .fields #[.ref h.objs.size, .none, .none, .none, .bool false, .none] }, g, d, t, os⟩) (hrest : rest.length ≤ sizeLine) :
    codeAny (model prog w) A (.builtin "Exception.__new__" ⟨.ref C :: rest, []⟩) R ⟨h, g, d, t, os⟩ := by
  have Fn := PySem.F.excBase_Exception
  have hends := Fn.ends
  refine codeAny_builtinAt Fn.entry ?_
  unfold Builtin.«BaseException.__new__»
  refine PySem.wpAt_bind ?_
  show PySem.wpAt _ _ _ (stack >>= _) _ _ _
  refine PySem.wpAt_bind (PySem.wpAt_stack fun p below => PySem.wpAt_of_wpAny ?_)
  wp_walk
  refine PySem.wpAt_of_wpAny ?_
  rw [Fn.owner]
  repeat (first | with_reducible refine wpAny_madeHere_exc Fn.canon hC ?_ | with_reducible refine wpAny_loadPart_at hC ?_ | (with_reducible refine wpAny_isSubtype_exc hC ?_; first | rw [hcB] | rw [hcA] | rw [hcN]) | wp_step)
  show R _ _
  rw [Heap.size_push]
  exact hq
end

theorem initBackR {x : Addr} {R : Result → Shared → Prop} : InitBack x R = InitBack x R := rfl

section
variable {prog : Program} {w : World} {A : Around} {R : Result → Shared → Prop} {h : Heap} {g : Array GenState} {d : Drawn} {t : Nat} {os : OsState} {K : Frag}
variable {nm q : Str} {C N : Addr} {bs bm : List Value} {hdct : Bool} {sn : List Str} {sub : List Value} {ab : Bool} {col : Option Bool} {dd : Option Addr} {k0 k1 k2 k3 k5 : Option Value}
set_option maxRecDepth 100000 in
set_option maxHeartbeats 1000000 in
theorem exc_make {rest : List Value} {fI : Addr} (hcB : (Value.ref C :: bm).contains (.type "Exception") = true) (hcA : (Value.ref C :: bm).contains (.type "AttributeError") = false) (hcN : (Value.ref C :: bm).contains (.type "NameError") = false)
    (hC : h.get? C = some (excClassObj nm q C N bs bm hdct sn sub ab col dd k0 k1 k2 k3 k5 "Exception.__new__")) (X : K.In h)
    (hi : findIn K (.ref C) "__init__" = some (some (.ref fI))) (hf : typeIn K (.ref fI) = some (.type "function")) (hrest : rest.length ≤ sizeLine)
    (hq : codeAny (model prog w) (A.under (.builtin "type.__call__" ⟨.ref C :: rest, []⟩)) (.call (.ref fI) ⟨.ref (h.objs.size + 1) :: rest, []⟩) (InitBack (h.objs.size + 1) R)
      ⟨(h.push { cls := .type "tuple", data := .seq rest.toArray }).push { cls := .ref C, data := .fields #[.ref h.objs.size, .none, .none, .none, .bool false, .none] }, g, d, t, os⟩) :
    codeAny (model prog w) A (.call (.ref C) ⟨rest, []⟩) R ⟨h, g, d, t, os⟩ := by
  have Fn := PySem.F.excBase_Exception
  have f1 := tc_lookup
  have f2 := tc_bind (.ref C)
  have hT : (⟨h, g, d, t, os⟩ : Shared).TypeIs (.ref C) "type" := ⟨_, hC, rfl⟩
  refine codeAny_of_tree ?_
  show wpAny _ _ (callAny (.ref C) _) _ _ _
  repeat (any_goals (first | assumption | with_reducible refine wpAny_loadPart_at hC ?_ | wp_step))
  refine ⟨rfl, ?_⟩
  show codeAny _ _ (.call (.builtin "type.__call__") ⟨.ref C :: rest, []⟩) _ _
  refine codeAny_call_builtin_at (Code.quiet_builtin _ (by decide +kernel)) entry_typeCall (wpAny_check_type_call_sub hC ?_)
  repeat (first | with_reducible refine wpAny_loadPart_at hC ?_ | with_reducible refine wpAny_madeBy_exc hC ?_ | wp_step)
  refine codeAny_call_builtin_code (Code.quiet_builtin _ Fn.quiet) (exc_check_new hcB hC ?_)
  refine exc_new hcB hcA hcN hC ?_ hrest
  show wpAny _ _ _ _ _ _
  have hk : ∀ b o, h.get? b = some o → ((h.push { cls := .type "tuple", data := .seq rest.toArray }).push { cls := .ref C, data := .fields #[.ref h.objs.size, .none, .none, .none, .bool false, .none] }).get? b = some o := fun b o e => Heap.get?_push_of_some _ (Heap.get?_push_of_some _ e)
  have hC₁ := hk _ _ hC
  have X₁ := X.keeps hk
  have hget : ((h.push { cls := .type "tuple", data := .seq rest.toArray }).push
      { cls := .ref C, data := .fields #[.ref h.objs.size, .none, .none, .none, .bool false, .none] }).get? (h.objs.size + 1) = some
      { cls := .ref C, data := .fields #[.ref h.objs.size, .none, .none, .none, .bool false, .none] } := by heap_get
  have hcC : (Value.ref C :: bm).contains (.ref C) = true := by simp
  unfold isInstance
  repeat (first | with_reducible refine wpAny_loadPart_at hget ?_ | (with_reducible refine wpAny_isSubtype_exc hC₁ ?_; rw [hcC]) | wp_step)
  show wpAny _ _ (typeLookup (.ref C) _) _ _ _
  refine (looks_findIn X₁ hi).here ?_
  refine wpAny_holding (wpAny_bind ((bind_fn X₁ _ hf).here ?_))
  refine wpAny_bind (wpAny_call (codeAny_mono hq fun r s' z => ?_))
  rcases r with e | (v | _ | _ | _) <;> first | exact z | exact z.elim | skip
  obtain ⟨rfl, z⟩ := z
  exact wpAny_pure (wpAny_pure z)
end

section
variable {prog : Program} {w : World} {A : Around} {E : Value → Shared → Prop} {R : Result → Shared → Prop} {h : Heap} {g : Array GenState} {d : Drawn} {t : Nat} {os : OsState} {K : Frag}
variable {nm q : Str} {C N : Addr} {bs bm : List Value} {hdct : Bool} {sn : List Str} {sub : List Value} {ab : Bool} {col : Option Bool} {dd : Option Addr} {k0 k1 k2 k3 k5 : Option Value} {newId : String}
set_option maxRecDepth 100000 in
theorem exc_check_init (hcB : (Value.ref C :: bm).contains (.type "Exception") = true) {e : Addr} {oe : Obj} {rest : List Value} {Q : Unit → Shared → Prop}
    (hC : h.get? C = some (excClassObj nm q C N bs bm hdct sn sub ab col dd k0 k1 k2 k3 k5 newId)) (he : h.get? e = some oe) (hcls : oe.cls = .ref C) (hq : Q () ⟨h, g, d, t, os⟩) :
    wpAny (model prog w) A (checkBuiltinCall "Exception.__init__" ⟨.ref e :: rest, []⟩) Q E ⟨h, g, d, t, os⟩ := by
  have F := PySem.F.excBase_Exception
  have hshort := F.noStar
  simp only [checkBuiltinCall, F.initKind, F.initSplit, F.initRow]
  repeat (first | (with_reducible refine wpAny_loadPart_at he ?_; rw [hcls]) | with_reducible refine wpAny_loadPart_at hC ?_ | (with_reducible refine wpAny_isSubtype_exc hC ?_; rw [hcB]) | wp_step)
  refine wpAny_onRaise ?_
  rw [show ∀ (a b : String) (n : Nat), Bind.check ⟨.positional, "*", "Exception", .self, [⟨"args", .varPos, false⟩]⟩ a b n (List.map (fun x => x.fst) ({ pos := Value.ref e :: rest } : Args).kw) = pure () from
    fun a b n => check_star_args _ _ _ _ _ _]
  exact wpAny_pure hq
set_option maxRecDepth 100000 in
set_option maxHeartbeats 1000000 in
theorem exc_init (hcB : (Value.ref C :: bm).contains (.type "Exception") = true) {e t0 : Addr} {rest : List Value} {Q : Value → Shared → Prop}
    (hC : h.get? C = some (excClassObj nm q C N bs bm hdct sn sub ab col dd k0 k1 k2 k3 k5 newId)) (he : h.get? e = some { cls := .ref C, data := .fields #[.ref t0, .none, .none, .none, .bool false, .none] })
    (hq : ∀ h', (∀ b o, b ≠ e → h.get? b = some o → h'.get? b = some o) → h'.get? e = some { cls := .ref C, data := .fields #[.ref h.objs.size, .none, .none, .none, .bool false, .none] } → Q .none ⟨h', g, d, t, os⟩) (hrest : rest.length ≤ sizeLine) :
    wpAny (model prog w) A (call (.builtin "Exception.__init__") (.ref e :: rest)) Q E ⟨h, g, d, t, os⟩ := by
  have F := PySem.F.excBase_Exception
  refine wpAny_call (codeAny_call_builtin F.init.plain F.initEntry (exc_check_init hcB hC he rfl ?_))
  wp_walk
  refine hq _ (fun b o hb ho => ?_) ?_
  · rw [Heap.get?_update_other _ _ (Ne.symm hb)]
    exact Heap.get?_push_of_some _ ho
  · rw [Heap.get?_update_self _ (Heap.get?_push_of_some _ he) rfl]
    rfl
end

section
variable {prog : Program} {w : World} {A : Around} {E : Value → Shared → Prop} {R : Result → Shared → Prop} {h : Heap} {g : Array GenState} {d : Drawn} {t : Nat} {os : OsState} {K : Frag}
variable {C x : Addr} {name : Str} {v : Value} {mA : Str → Option Value} {cd : ClassData} {ns : List Str}
set_option maxRecDepth 100000 in
set_option maxHeartbeats 1000000 in
/-- an attribute stored in an exception of the text -/
theorem exc_store (X : K.In h) (hc : clsIn K C = some cd) (hd : cd.hasDict = true) (hm : cd.mro.isEmpty = false) (hr : refuseLoop (.ref x) "__setattr__" cd.mro = pure ()) (hna : findIn K (.ref C) name = some none)
    {tk : Tok} {Q : Fin → Shared → Prop} (I : h.Inst x C mA)
    (hq : ∀ h' tk', h'.Inst x C (fun y => if y = name then some v else mA y) →
      (∀ b o, b ≠ x → (∀ o₀ dx, h.get? x = some o₀ → o₀.dict = some dx → b ≠ dx) → h.get? b = some o → h'.get? b = some o) →
      (∀ o₀, h.get? x = some o₀ → ∃ o₁, h'.get? x = some o₁ ∧ o₁.cls = o₀.cls ∧ o₁.data = o₀.data ∧ ((∃ dx, o₀.dict = some dx ∧ o₁.dict = some dx) ∨ (o₀.dict = none ∧ o₁.dict = some h.objs.size))) → Q (.done (.ret .none)) ⟨h', g, d, tk', os⟩) (hw : Within mA ns) (hsz : ns.length ≤ 100) :
    wpAny (model prog w) A (Builtin.«object.__setattr__» ⟨[.ref x, .str name tk, v], []⟩) Q E ⟨h, g, d, t, os⟩ := by
  obtain ⟨o, hx, hcl, hnc, hdi⟩ := I
  obtain ⟨oc, od, oda, osl⟩ := o
  dsimp only at hcl hnc hdi
  subst hcl
  have L0 : Looks (model prog w) h (typeOf (.ref x)) (.ref C) := (Looks.ld hx).andThen .now
  have Lm : Looks (model prog w) h (mroOf (.ref C)) cd.mro := (looks_clsIn X hc).andThen .now
  rw [osa_eq, refuse_eq]
  refine wpAny_bind (wpAny_bind (L0.at (wpAny_bind (Lm.at ?_))))
  rw [hr]
  refine wpAny_pure (wpAny_bind (L0.at (wpAny_bind ((looks_findIn X hna).at ?_))))
  refine wpAny_bind (wpAny_pure ?_)
  show wpAny _ _ (storeInOwnDict (.ref x) (.ref C) (.str name tk) name v false) _ _ _
  refine wpAny_bind (wpAny_pure (wpAny_bind (wpAny_bind (wpAny_loadPart hx ?_))))
  refine wpAny_bind ((looks_clsIn X hc).at ?_)
  rw [hd, if_neg (by decide)]
  rcases hdi with ⟨rfl, hmA⟩ | ⟨dx, rfl, hne, hns⟩
  · dsimp only
    rw [if_neg (by simp [typeHasDict])]
    have hx₁ : (h.push { cls := .type "dict", data := .dict #[] }).get? x = some ⟨.ref C, none, oda, osl⟩ := Heap.get?_push_of_some _ hx
    have hxs : x ≠ h.objs.size := Nat.ne_of_lt (Heap.lt_size hx)
    have main : wpAny (model prog w) A (do let d ← alloc { cls := .type "dict", data := .dict #[] }; update x fun o => { cls := o.cls, dict := some d, data := o.data, slots := o.slots }; dictMade (.ref C) x d) (fun a s' => wpAny (model prog w) A
        (match a with
        | some d => storeInDict d (Value.str name tk) name v
        | none => noDictFor (Value.ref x) (Value.ref C) name false) Q E s') E { heap := h, gens := g, drawn := d, toks := t, os := os } := by
      refine wpAny_bind (wpAny_alloc' ?_)
      refine wpAny_bind (wpAny_update' hx₁ ?_)
      refine wpAny_pure ?_
      have hgd : ((h.push { cls := .type "dict", data := .dict #[] }).update x fun o => { cls := o.cls, dict := some h.objs.size, data := o.data, slots := o.slots }).get? h.objs.size
          = some { cls := .type "dict", data := .dict #[] } :=
        (Heap.get?_update_ne _ _ _ _ hxs.symm).trans (Heap.get?_push_at rfl rfl)
      have hnd : ((h.push { cls := .type "dict", data := .dict #[] }).update x fun o => { cls := o.cls, dict := some h.objs.size, data := o.data, slots := o.slots }).Ns h.objs.size (fun _ => none) :=
        ⟨_, #[], _, hgd, rfl, fun e he => absurd he (by simp), fun _ => rfl⟩
      show wpAny _ _ (storeInDict h.objs.size (.str name tk) name v) _ _ _
      unfold storeInDict newKeyGuard
      refine wpAny_bind (wpAny_pure (wpAny_bind (wpAny_nsSet1 (Heap.Ns1.of_empty hnd) fun h' hn' hs => ?_)))
      obtain ⟨oD, esD, epD, hoD, hdD, hcD⟩ := hn'.count (Within.cons name v Within.nil)
      refine wpAny_bind (wpAny_lookBehind hoD (by rw [hdD]; exact pastItsLine_dict (Nat.le_trans hcD (by rw [List.length_cons, List.length_nil, sizeLine_eq]; omega))) ?_)
      have hx' : h'.get? x = some { cls := .ref C, dict := some h.objs.size, data := oda, slots := osl } := by
        refine (hs.2 x hxs).trans (Heap.get?_update_self _ hx₁ ?_)
        have hfr := (Heap.get?_some_iff.mp hx).2
        cases oda <;> first | rfl | exact hfr
      refine wpAny_pure (hq h' _ ⟨{ cls := .ref C, dict := some h.objs.size, data := oda, slots := osl }, hx', rfl, hnc, .inr ⟨h.objs.size, rfl, hxs.symm, ?_⟩⟩ (fun b ob hbx _ hb => ?_)
        (fun o₀ h₀ => by obtain rfl := Option.some.inj (hx.symm.trans h₀); exact ⟨_, hx', rfl, rfl, .inr ⟨rfl, rfl⟩⟩))
      · obtain ⟨o', es, ep, e1, e2, e3, eu, e4⟩ := hn'
        exact ⟨o', es, ep, e1, e2, e3, eu, fun y => by rw [e4 y]; by_cases hy : y = name <;> simp [hy, hmA]⟩
      · exact (hs.2 b (Nat.ne_of_lt (Heap.lt_size hb))).trans ((Heap.get?_update_ne _ _ _ _ hbx).trans (Heap.get?_push_of_some _ hb))
    cases oda <;> first | exact absurd rfl (hnc _) | exact main
  · dsimp only
    refine wpAny_pure ?_
    show wpAny _ _ (storeInDict dx (.str name tk) name v) _ _ _
    unfold storeInDict newKeyGuard
    refine wpAny_bind (wpAny_pure (wpAny_bind (wpAny_nsSet1 hns fun h' hn' hs => ?_)))
    obtain ⟨oD, esD, epD, hoD, hdD, hcD⟩ := hn'.count (Within.cons name v hw)
    refine wpAny_bind (wpAny_lookBehind hoD (by rw [hdD]; exact pastItsLine_dict (Nat.le_trans hcD (by rw [List.length_cons, sizeLine_eq]; omega))) ?_)
    refine wpAny_pure (hq h' _ ⟨_, (hs.2 x hne.symm).trans hx, rfl, hnc, .inr ⟨dx, rfl, hne, hn'⟩⟩ (fun b ob _ hbd hb => ?_)
      (fun o₀ h₀ => by obtain rfl := Option.some.inj (hx.symm.trans h₀); exact ⟨_, (hs.2 x hne.symm).trans hx, rfl, rfl, .inl ⟨dx, rfl, rfl⟩⟩))
    exact (hs.2 b (hbd _ dx hx rfl)).trans hb
end

/-- an exception of the text under way to be made: beside the ledger -/
structure ExcLed (h₀ : Heap) (L : Addr) (rest : List (Addr × Obj)) (h : Heap) (e : Addr) (mA : Str → Option Value) : Prop where
  inst : h.Inst e 45 mA
  obj : ∃ o a0, h.get? e = some o ∧ o.cls = .ref 45 ∧ o.data = .fields #[a0, .none, .none, .none, .bool false, .none]
  off : e ≠ L ∧ h₀.get? e = none ∧ ∀ p ∈ rest, p.1 ≠ e
  dic : ∀ o dx, h.get? e = some o → o.dict = some dx → dx ≠ L ∧ h₀.get? dx = none ∧ ∀ p ∈ rest, p.1 ≠ dx
theorem ExcLed.keeps {h₀ h h' : Heap} {L e : Addr} {rest : List (Addr × Obj)} {mA : Str → Option Value} (x : ExcLed h₀ L rest h e mA) (k : ∀ b o, h.get? b = some o → h'.get? b = some o) : ExcLed h₀ L rest h' e mA := by
  obtain ⟨o, a0, ho, hc, hd⟩ := x.obj
  have i := x.inst
  refine ⟨?_, ⟨o, a0, k _ _ ho, hc, hd⟩, x.off, fun o' dx h1 h2 => ?_⟩
  · obtain ⟨o, a1, a2, a3, a4⟩ := i
    exact ⟨o, k _ _ a1, a2, a3, a4.imp id fun ⟨d, b1, b2, b3⟩ => ⟨d, b1, b2, b3.at fun o => k _ o⟩⟩
  · rw [k _ _ ho] at h1
    obtain rfl := Option.some.inj h1
    exact x.dic _ _ ho h2

section
variable {prog : Program} {w : World} {A : Around} {E : Value → Shared → Prop} {s : Shared} {K : Frag} {h₀ : Heap} {L e : Addr} {m : Str → Option Value} {rest : List (Addr × Obj)}
variable {nm q : Str} {N₁ : Addr} {bs bm : List Value} {hdct : Bool} {sn : List Str} {sub : List Value} {ab : Bool} {col : Option Bool} {dd : Option Addr} {k0 k1 k2 k3 k5 : Option Value} {newId : String}
theorem exc_init_led {t0 : Addr} {v : Value} {Q : Value → Shared → Prop} (F : Fr h₀ L s.heap m) (X₀ : K.In h₀) (N : News h₀ L s.heap ((e, excAt t0) :: rest))
    (hC : K.lookup 45 = some (excClassObj nm q 45 N₁ bs bm hdct sn sub ab col dd k0 k1 k2 k3 k5 newId)) (hcB : (Value.ref 45 :: bm).contains (.type "Exception") = true) (hl : ∀ p ∈ rest, p.1 < e)
    (h : ∀ h', Fr h₀ L h' m → News h₀ L h' rest → ExcLed h₀ L rest h' e (fun _ => none) → Q .none { s with heap := h' }) :
    wpAny (model prog w) A (call (.builtin "Exception.__init__") [.ref e, v]) Q E s := by
  obtain ⟨hh, g, d, t, os⟩ := s
  have z := N _ (.head _)
  refine exc_init hcB ((X₀.keeps F.keep) _ _ hC) z.1 (fun h' hk he => h h' ⟨F.ns.at' fun o ho => hk _ o (Ne.symm z.2.1) ho, fun b o hb => hk b o (fun q => by rw [q, z.2.2] at hb; cases hb) (F.keep b o hb), F.above⟩ (fun p hp => ⟨hk _ _ (Nat.ne_of_lt (hl p hp)) (N p (.tail _ hp)).1, (N p (.tail _ hp)).2⟩) ?_) (by size_fits)
  refine ⟨⟨_, he, rfl, (fun c hc => by cases hc), .inl ⟨rfl, fun _ => rfl⟩⟩, ⟨_, _, he, rfl, rfl⟩, ⟨z.2.1, z.2.2, fun p hp => Nat.ne_of_lt (hl p hp)⟩, fun o dx h1 h2 => ?_⟩
  rw [he] at h1
  obtain rfl := Option.some.inj h1
  cases h2

theorem exc_set_led {name : Str} {v : Value} {cd : ClassData} {mA : Str → Option Value} {ns : List Str} {Q : Unit → Shared → Prop} (F : Fr h₀ L s.heap m) (X₀ : K.In h₀) (N : News h₀ L s.heap rest) (EL : ExcLed h₀ L rest s.heap e mA)
    (hc : clsIn K 45 = some cd) (hd : cd.hasDict = true) (hm : cd.mro.isEmpty = false) (hcO : cd.mro.contains (.type "object") = true) (hr : refuseLoop (.ref e) "__setattr__" cd.mro = pure ()) (hna : findIn K (.ref 45) name = some none)
    (hs : findIn K (.ref 45) "__setattr__" = some (some (.builtin "object.__setattr__"))) (hw : Within mA ns) (hsz : ns.length ≤ 100)
    (h : ∀ h' tk, Fr h₀ L h' m → News h₀ L h' rest → ExcLed h₀ L rest h' e (fun y => if y = name then some v else mA y) → Q () { s with heap := h', toks := tk }) :
    wpAny (model prog w) A (setAttr (.ref e) name v) Q E s := by
  obtain ⟨hh, g, d, t, os⟩ := s
  have SF := PySem.F.store_object
  have X := X₀.keeps F.keep
  obtain ⟨i1, ⟨ob, a0, o1, o2, o3⟩, ⟨f1, f2, f3⟩, dc⟩ := EL
  obtain ⟨oc, od, oda, osl⟩ := ob
  dsimp only at o2 o3 X N F o1
  subst o2
  have L0 : Looks (model prog w) hh (typeOf (.ref e)) (.ref 45) := (Looks.ld o1).andThen .now
  have sub : Looks (model prog w) hh (isInstance (.ref e) (.type "object")) true := L0.andThen (looks_mroIn X (by unfold mroIn; rw [hc, Option.bind_some, if_neg (by rw [hm]; decide), hcO]))
  refine wpAny_bind (wpAny_mkText (wpAny_bind (wpAny_bind (wpAny_bind (L0 _ _ _ _ (fun _ _ e => e) (looks_findIn X hs _ _ _ _ (fun _ _ e => e) (wpAny_holding ?_)))))))
  rw [SF.slot.bind]
  refine wpAny_bind (wpAny_pure (wpAny_bind (wpAny_call ?_)))
  refine codeAny_call_builtin SF.slot.plain SF.entry (@check_slot (model prog w) _ _ ⟨hh, g, d, t + 1, os⟩ "object.__setattr__" "object" "__setattr__" (.ref e) [.str name t, v] [] _ SF.kind SF.split sub (SF.args (.ref e) (.str name t) v) ?_)
  refine exc_store X hc hd hm hr hna i1 (fun h' tk' I' hk hsame => ?_) hw hsz
  obtain ⟨ob', p1, p2, p3, p4⟩ := hsame _ o1
  have kp : ∀ b o, b ≠ e → (∀ dx, od = some dx → b ≠ dx) → hh.get? b = some o → h'.get? b = some o := fun b o hb hb2 hb3 => hk b o hb (fun o₀ dx q1 q2 => by
    rw [o1] at q1
    obtain rfl := Option.some.inj q1
    exact hb2 dx q2) hb3
  refine wpAny_pure (wpAny_pure (h h' tk' ⟨F.ns.at' fun o ho => kp _ o (Ne.symm f1) (fun dx q => Ne.symm (dc _ dx o1 q).1) ho, fun b o hb => kp b o (fun q => by rw [q, f2] at hb; cases hb) (fun dx q q' => by rw [q', (dc _ dx o1 q).2.1] at hb; cases hb) (F.keep b o hb), F.above⟩
    (fun p hp => ⟨kp _ _ (f3 p hp) (fun dx q => (dc _ dx o1 q).2.2 p hp) (N p hp).1, (N p hp).2⟩) ⟨I', ⟨ob', a0, p1, p2, p3.trans o3⟩, ⟨f1, f2, f3⟩, fun o dx q1 q2 => ?_⟩))
  rw [p1] at q1
  obtain rfl := Option.some.inj q1
  rcases p4 with ⟨dy, r1, r2⟩ | ⟨r1, r2⟩
  · rw [r2] at q2
    obtain rfl := Option.some.inj q2
    exact dc _ _ o1 r1
  · rw [r2] at q2
    obtain rfl := Option.some.inj q2
    exact ⟨Nat.ne_of_gt F.ns.lt, next_is_new F, fun p hp => Nat.ne_of_lt (Heap.lt_size (N p hp).1)⟩
end
end
section
set_option tactic.hygienic false
theorem ln29 : True := by
  k_with_none
  (k_with "room" => first | exact roomE (by assumption) | exact roomD (by assumption) (by first | decide | omega) | ((try simp only [depth_mark, depth_under_make, depth_under_kw, depth_in1, depth_deeper, depth_caller]); (try dsimp only [ktrTop]); omega))
  (k_with "mem" => first | exact List.mem_cons_self | (refine List.mem_cons_of_mem _ ?_; first | ktr_member | k_mem))
  (k_with "enter" => (refine' code_def (by first | (k_asm) | fail "no") (by first | (k_asm) | fail "no") (by first | (k_asm) | fail "no") (by first | (k_asm) | fail "no") (by first | (k_asm) | fail "no") (by first | (exact rfl) | fail "no") (by first | (exact rfl) | fail "no") (by first | (first | exact rfl | assumption) | fail "no") (by first | (k_is) | fail "no") (by first | (k_is) | fail "no") (by first | (k_room) | fail "no") (by first | (first | exact BindsTo.of_eq rfl | exact binds_K (by k_in) rfl (by k_is) rfl rfl rfl) | fail "no") (by first | (exact locs rfl) | fail "no") ?_ (by first | (exact rfl) | fail "no") (by first | (exact rfl) | fail "no") (by first | (exact rfl) | fail "no") (by first | (decide) | fail "no"); k_whole; intro g' L' h' FG' F' N' B' X' T'; (try dsimp only); (try k_fold); (try (refine (let en9 := _; let ar9 := Around.deeper _ en9; (?_ : wpAny _ ar9 (execs _ en9) _ _ _))))))
  (k_with "exec For Name Name cons nil" => (k_here; (rename Fr _ _ _ _ => lF'); (with_unfolding_all refine' For_invVF lF' (by first | (exact rfl) | fail "no") (by first | (exact rfl) | fail "no") ?_; k_whole)))
  (k_with "exec For Name Call cons nil" => (k_here; (rename Fr _ _ _ _ => lF'); (with_unfolding_all refine' For_invVF lF' (by first | (exact rfl) | fail "no") (by first | (exact rfl) | fail "no") ?_; k_whole)))
  (k_with "pyIter ref" => (refine Held.out ?_))
  (k_with "subscriptTail" => (k_here; (with_reducible show wpAny _ _ (subscriptTail _ _ (Value.ref _) (Value.int 0 _)) _ _ _); k_dflt (refine' item0 (by first | (exact News.isTup (by k_asm) (by k_mem)) | fail "no") ?_ (by first | (with_unfolding_all rfl) | fail "no"); k_whole)))
  (k_with "compareOp NotIn str ref" => (k_here; (with_reducible show wpAny _ _ (compareOp CmpOp.NotIn (Value.str _ _) (Value.ref _)) _ _ _); (with_unfolding_all refine' notin_tuple_strs (by first | ((refine' tupK (by first | (k_in) | fail "no") (by first | (k_dflt k_is) | fail "no"))) | fail "no") (by first | (repeat constructor) | fail "no") ?_; k_whole)))
  (k_with "ite" => (refine ite_no (by first | ((simp only [beq_eq_false_iff_ne, ne_eq]; assumption)) | fail "no") ?_))
  (k_with "TurnPost" => (dsimp only [TurnPost]))
  trivial

open Builtin Builtin.ObjectAttr
/-- the same, as the ledger sees it -/
theorem call_exc {prog : Program} {w : World} {A : Around} {E : Value → Shared → Prop} {s : Shared} {C : Addr} {K : Frag} {h₀ : Heap} {L : Addr} {m : Str → Option Value} {news : List (Addr × Obj)} {Q : Value → Shared → Prop} {rest : List Value} {fI : Addr} {nm q : Str} {N₁ : Addr} {bs bm : List Value} {hdct : Bool} {sn : List Str} {sub : List Value} {ab : Bool} {col : Option Bool} {dd : Option Addr} {k0 k1 k2 k3 k5 : Option Value}
    (F : Fr h₀ L s.heap m) (X₀ : K.In h₀) (N : News h₀ L s.heap news)
    (hC : K.lookup C = some (excClassObj nm q C N₁ bs bm hdct sn sub ab col dd k0 k1 k2 k3 k5 "Exception.__new__"))
    (hcB : (Value.ref C :: bm).contains (.type "Exception") = true) (hcA : (Value.ref C :: bm).contains (.type "AttributeError") = false) (hcN : (Value.ref C :: bm).contains (.type "NameError") = false)
    (hi : findIn K (.ref C) "__init__" = some (some (.ref fI))) (hf : typeIn K (.ref fI) = some (.type "function")) (hrest : rest.length ≤ sizeLine)
    (h : ∀ x t h', Fr h₀ L h' m → News h₀ L h' ((x, { cls := .ref C, data := .fields #[.ref t, .none, .none, .none, .bool false, .none] }) :: (t, { cls := .type "tuple", data := .seq rest.toArray }) :: news) → (∀ p ∈ news, p.1 < t) → t < x →
      codeAny (model prog w) (A.under (.builtin "type.__call__" ⟨.ref C :: rest, []⟩)) (.call (.ref fI) ⟨.ref x :: rest, []⟩) (InitBack x fun r s' => match r with | .ok (.ret v) => Q v s' | .ok _ => False | .error e => E e s') { s with heap := h' }) :
    wpAny (model prog w) A (call (.ref C) rest) Q E s := by
  obtain ⟨hh, g, d, t, os⟩ := s
  refine wpAny_call (exc_make hcB hcA hcN ((X₀.keeps F.keep) _ _ hC) (X₀.keeps F.keep) hi hf hrest (h _ hh.objs.size _ ((F.push _).push _) ?_ (fun p hp => Heap.lt_size (N p hp).1) (Nat.lt_succ_self _)))
  have := (N.push F { cls := .type "tuple", data := .seq rest.toArray }).push (F.push _) { cls := .ref C, data := .fields #[.ref hh.objs.size, .none, .none, .none, .bool false, .none] }
  rwa [Heap.size_push] at this
/-- what a FlowFault leaves -/
noncomputable abbrev FaultPost (r : Value) (tl : List (Addr × Obj)) : Prop := ∃ e eo a0, r = .ref e ∧ tl = [(e, eo)] ∧ eo.cls = .ref 45 ∧ eo.data = .fields #[a0, .none, .none, .none, .bool false, .none]
theorem meta_exc : typeOf (.type "Exception") = pure (.type "type") := by kernel_rfl
theorem refuse_exc (self : Value) : refuseLoop self "__setattr__" [.ref 45, .ref 32, .type "Exception", .type "BaseException", .type "object"] = pure () := by
  rw [refuseLoop_ref, refuseLoop_ref]; exact PySem.F.store_Exception.passes self
theorem ln30 : True := by
  (k_with "getMethod type:Exception" => (k_here; refine' method_type (by first | (k_asm) | fail "no") (by first | (k_asm) | fail "no") (by first | (exact meta_exc) | fail "no") (by decide +kernel) (by first | (k_dflt k_is) | fail "no") (by first | (k_handed) | fail "no") ?_))
  (k_with "call builtin:Exception.__init__" => (k_here; (rename Fr _ _ _ _ => lF'); (rename News _ _ _ _ => lN'); k_dflt (refine' exc_init_led (K := hd.heap_1 _) lF' (by first | (k_asm) | fail "no") lN' (by first | (exact rfl) | fail "no") (by first | (decide) | fail "no") (by first | (assumption) | fail "no") ?_; k_whole); clear lF' lN'; intro h9 F9 N9 EL9; (try dsimp only)))
  (k_with "setAttr ref" => (k_here; (rename Fr _ _ _ _ => lF'); (rename News _ _ _ _ => lN'); (rename ExcLed _ _ _ _ _ _ => lE'); k_dflt (refine' exc_set_led (K := hd.heap_1 _) lF' (by first | (k_asm) | fail "no") lN' lE' (by first | (exact rfl) | fail "no") (by first | (exact rfl) | fail "no") (by first | (exact rfl) | fail "no") (by first | (decide) | fail "no") (by first | (exact refuse_exc _) | fail "no") (by first | (exact rfl) | fail "no") (by first | (exact rfl) | fail "no") (by first | (within_ways) | fail "no") (by first | (decide) | fail "no") ?_; k_whole); clear lF' lN' lE'; intro h9 tk9 F9 N9 EL9; (try dsimp only)))
  trivial

section
variable {w : World} {mean : ExcName → Option Value} {mg mb : Str → Option Value} {news : List (Addr × Obj)}
set_option maxRecDepth 100000 in
set_option maxHeartbeats 8000000 in
theorem fault_spec {x : Str} {t : Tok} {vs₀ : Value} : Call w mean mg mb 4 45 [.str x t, vs₀] news FaultPost := by
  intro dp un gd cn cs a ccd cl outer A₀ base h₀ L m sH sG sD sT sO Q E B F X N T hk hdp hun ret
  refine call_exc (K := hd.heap_1 w.params) (C := 45) (fI := 29) F X N (by exact rfl) (by decide) (by decide) (by decide) (by exact rfl) (by exact rfl) (by size_fits) ?_
  intro e te h' F9 N9 l1 l2
  clear F N
  have l3 : ∀ p ∈ (te, ({ cls := .type "tuple", data := .seq [Value.str x t, vs₀].toArray } : Obj)) :: news, p.1 < e := fun p hp => by
    rcases List.mem_cons.mp hp with rfl | hp
    · exact l2
    · exact Nat.lt_trans (l1 p hp) l2
  have he0 := (N9 _ (.head _)).2
  have l4 : ∀ q ∈ news, q.1 < e := fun q hq => l3 q (.tail _ hq)
  k_dflt ktr_enter
  k_steps
  rename ExcLed _ _ _ _ _ _ => EL9
  rename Fr _ _ _ _ => F9
  rename News _ _ _ _ => N9
  obtain ⟨eo, a0, o1, o2, o3⟩ := EL9.obj
  refine ret _ [(e, eo)] _ _ F9 (fun p hp => ?_) (lt_one (allLt_of l4)) ⟨e, eo, a0, rfl, rfl, o2, o3⟩
  rcases List.mem_cons.mp hp with rfl | hp
  · exact ⟨o1, he0⟩
  · exact N9 p (.tail _ hp)
end
end
section
set_option tactic.hygienic false
theorem ln31 : True := by
  k_with_none
  (k_with "room" => first | exact roomE (by assumption) | exact roomD (by assumption) (by first | decide | omega) | ((try simp only [depth_mark, depth_under_make, depth_under_kw, depth_in1, depth_deeper, depth_caller]); (try dsimp only [ktrTop]); omega))
  (k_with "mem" => first | exact List.mem_cons_self | (refine List.mem_cons_of_mem _ ?_; first | ktr_member | k_mem))
  (k_with "enter" => (refine' code_def (by first | (k_asm) | fail "no") (by first | (k_asm) | fail "no") (by first | (k_asm) | fail "no") (by first | (k_asm) | fail "no") (by first | (k_asm) | fail "no") (by first | (exact rfl) | fail "no") (by first | (exact rfl) | fail "no") (by first | (first | exact rfl | assumption) | fail "no") (by first | (k_is) | fail "no") (by first | (k_is) | fail "no") (by first | (k_room) | fail "no") (by first | (first | exact BindsTo.of_eq rfl | exact binds_K (by k_in) rfl (by k_is) rfl rfl rfl) | fail "no") (by first | (exact locs rfl) | fail "no") ?_ (by first | (exact rfl) | fail "no") (by first | (exact rfl) | fail "no") (by first | (exact rfl) | fail "no") (by first | (decide) | fail "no"); k_whole; intro g' L' h' FG' F' N' B' X' T'; (try dsimp only); (try k_fold); (try (refine (let en9 := _; let ar9 := Around.deeper _ en9; (?_ : wpAny _ ar9 (execs _ en9) _ _ _))))))
  (k_with "exec For Name Name cons nil" => (k_here; (rename Fr _ _ _ _ => lF'); (with_unfolding_all refine' For_invVF lF' (by first | (exact rfl) | fail "no") (by first | (exact rfl) | fail "no") ?_; k_whole)))
  (k_with "exec For Name Call cons nil" => (k_here; (rename Fr _ _ _ _ => lF'); (with_unfolding_all refine' For_invVF lF' (by first | (exact rfl) | fail "no") (by first | (exact rfl) | fail "no") ?_; k_whole)))
  (k_with "pyIter ref" => (refine Held.out ?_))
  (k_with "subscriptTail" => (k_here; (with_reducible show wpAny _ _ (subscriptTail _ _ (Value.ref _) (Value.int 0 _)) _ _ _); k_dflt (refine' item0 (by first | (exact News.isTup (by k_asm) (by k_mem)) | fail "no") ?_ (by first | (with_unfolding_all rfl) | fail "no"); k_whole)))
  (k_with "compareOp NotIn str ref" => (k_here; (with_reducible show wpAny _ _ (compareOp CmpOp.NotIn (Value.str _ _) (Value.ref _)) _ _ _); (with_unfolding_all refine' notin_tuple_strs (by first | ((refine' tupK (by first | (k_in) | fail "no") (by first | (k_dflt k_is) | fail "no"))) | fail "no") (by first | (repeat constructor) | fail "no") ?_; k_whole)))
  (k_with "ite" => (refine ite_no (by first | ((simp only [beq_eq_false_iff_ne, ne_eq]; assumption)) | fail "no") ?_))
  (k_with "TurnPost" => (dsimp only [TurnPost]))
  trivial

open Builtin Builtin.ObjectAttr
/-- what was told and what was used -/
structure CSt where
  told : List Str
  used : List Str
noncomputable abbrev Ops := List (Option Str × Bool)
noncomputable def keyIn (x : Str) (ks : List Str) : List Str := if x ∈ ks then ks else ks ++ [x]
noncomputable def lead (brk : Bool) (l : Option Str) (o : Ops) (s : CSt) : Option CSt :=
  match l with
  | none => if (o.filter fun r => brk || r.2) = [] then none else some s
  | some x => if (o.filter fun r => (brk || r.2) && r.1 == some x) = [] then none else some ⟨s.told, keyIn x s.used⟩
noncomputable def tell (l : Option Str) (s : CSt) : Option CSt :=
  match l with
  | none => some s
  | some x => if x ∈ s.told then none else some ⟨s.told ++ [x], s.used⟩
mutual
noncomputable def chk1 : St → Ops → CSt → Option CSt
  | .ret, _, s => some s
  | .fall, _, s => some s
  | .ex _, _, s => some s
  | .brk l, o, s => lead true l o s
  | .cont l, o, s => lead false l o s
  | .for_ l _ b, o, s => (tell l s).bind fun s => chks b (o ++ [(l, true)]) s
  | .rng l b, o, s => (tell l s).bind fun s => chks b (o ++ [(l, true)]) s
  | .sw l cs, o, s => (tell l s).bind fun s => chkC cs (o ++ [(l, false)]) s
  | .cho l cs, o, s => (tell l s).bind fun s => chkC cs (o ++ [(l, false)]) s
  | .blk b, o, s => chks b o s
  | .if1 b, o, s => chks b o s
  | .if2 b e, o, s => (chks b o s).bind fun s => chk1 e o s
noncomputable def chks : Sts → Ops → CSt → Option CSt
  | .nil, _, s => some s
  | .cons st r, o, s => (chk1 st o s).bind fun s => chks r o s
noncomputable def chkC : Cs → Ops → CSt → Option CSt
  | .nil, _, s => some s
  | .cons _ b r, o, s => (chks b o s).bind fun s => chkC r o s
end
noncomputable def foldO {α : Type} (f : α → CSt → Option CSt) : List α → CSt → Option CSt
  | [], s => some s
  | x :: r, s => (f x s).bind fun s => foldO f r s
theorem foldO_append {α : Type} (f : α → CSt → Option CSt) : ∀ (l r : List α) (s : CSt), foldO f (l ++ r) s = (foldO f l s).bind fun s => foldO f r s
  | [], _, _ => rfl
  | x :: l, r, s => by
    show (f x s).bind _ = ((f x s).bind _).bind _
    cases f x s with
    | none => rfl
    | some s' => exact foldO_append f l r s'
theorem foldO_take {α : Type} {f : α → CSt → Option CSt} {l : List α} {i : Nat} {x : α} {s s' : CSt} (h : foldO f (l.take i) s = some s') (hx : l[i]? = some x) : foldO f (l.take (i + 1)) s = f x s' := by
  rw [List.take_add_one, hx, foldO_append, h]
  show (f x s').bind (fun s => some s) = f x s'
  cases f x s' <;> rfl
theorem foldO_none {α : Type} {f : α → CSt → Option CSt} {l : List α} {i : Nat} {s : CSt} (h : foldO f (l.take i) s = none) : foldO f l s = none := by
  rw [← List.take_append_drop i l, foldO_append, h]; rfl
theorem chks_fold (o : Ops) : ∀ (b : Sts) (s : CSt), chks b o s = foldO (fun st s => chk1 st o s) b.toList s
  | .nil, _ => rfl
  | .cons st r, s => by
    rw [chks, Sts.toList]
    show _ = (chk1 st o s).bind _
    cases chk1 st o s with
    | none => rfl
    | some s' => exact chks_fold o r s'
theorem chkC_fold (o : Ops) : ∀ (c : Cs) (s : CSt), chkC c o s = foldO (fun b s => chks b o s) c.bodies s
  | .nil, _ => rfl
  | .cons _ b r, s => by
    rw [chkC, Cs.bodies]
    show _ = (chks b o s).bind _
    cases chks b o s with
    | none => rfl
    | some s' => exact chkC_fold o r s'
/-- the label of what is left by a break -/
noncomputable def St.lab : St → Option Str
  | .for_ l _ _ => l
  | .rng l _ => l
  | .sw l _ => l
  | .cho l _ => l
  | _ => none
noncomputable def St.loop : St → Bool
  | .for_ .. | .rng .. => true
  | _ => false
noncomputable def St.leads (st : St) (o : Ops) (s : CSt) : Option CSt :=
  match st with
  | .brk l => lead true l o s
  | .cont l => lead false l o s
  | _ => some s
theorem chk1_inn {st : St} {o : Ops} {s : CSt} (h : st.left = false) : chk1 st o s = (st.leads o s).bind fun s => foldO (fun b s => chks b o s) st.inn s := by
  cases st with
  | ret | fall | ex => rfl
  | brk l => rw [chk1]; show _ = (lead true l o s).bind _; cases lead true l o s <;> rfl
  | cont l => rw [chk1]; show _ = (lead false l o s).bind _; cases lead false l o s <;> rfl
  | for_ | rng | sw | cho => cases h
  | blk b => rw [chk1]; show _ = (chks b o s).bind _; cases chks b o s <;> rfl
  | if1 b => rw [chk1]; show _ = (chks b o s).bind _; cases chks b o s <;> rfl
  | if2 b e =>
    rw [chk1]; show _ = (chks b o s).bind _
    cases chks b o s with
    | none => rfl
    | some s' => show chk1 e o s' = ((chk1 e o s').bind _).bind _; cases chk1 e o s' <;> rfl
theorem chk1_left {st : St} {o : Ops} {s : CSt} (h : st.left = true) : chk1 st o s = (tell st.lab s).bind fun s => foldO (fun b s => chks b (o ++ [(st.lab, st.loop)]) s) st.inn s := by
  cases st with
  | ret | fall | ex | brk | cont | blk | if1 | if2 => cases h
  | for_ l c b => rw [chk1]; show _ = (tell l s).bind _; congr 1; funext s; show chks b (o ++ [(l, true)]) s = (chks b (o ++ [(l, true)]) s).bind (fun s => some s); cases chks b (o ++ [(l, true)]) s <;> rfl
  | rng l b => rw [chk1]; show _ = (tell l s).bind _; congr 1; funext s; show chks b (o ++ [(l, true)]) s = (chks b (o ++ [(l, true)]) s).bind (fun s => some s); cases chks b (o ++ [(l, true)]) s <;> rfl
  | sw l c => rw [chk1]; show _ = (tell l s).bind _; congr 1; funext s; exact chkC_fold _ c s
  | cho l c => rw [chk1]; show _ = (tell l s).bind _; congr 1; funext s; exact chkC_fold _ c s

/-- a table with these keys -/
noncomputable def Keys (w : World) (o : Obj) (ks : List Str) : Prop := ∃ kvs D, o.IsDictOf (strKind pg w) kvs ∧ FlatPairs PyData.str kvs D ∧ kvs.map (·.1) = ks ∧ ∀ x ∈ ks, x.length ≤ 40
noncomputable abbrev chkD (w : World) (td ud op : Addr) (t1 t2 t3 : Tok) (n : Nat) : Obj :=
  dictOf [⟨PyData.keyHash w.params (Str.ofString "told"), .str (Str.ofString "told") t1, .ref td⟩, ⟨PyData.keyHash w.params (Str.ofString "used"), .str (Str.ofString "used") t2, .ref ud⟩, ⟨PyData.keyHash w.params (Str.ofString "open"), .str (Str.ofString "open") t3, .ref op⟩] n
inductive OpensIn (news : List (Addr × Obj)) : List Value → Ops → Prop
  | nil : OpensIn news [] []
  | cons {a : Addr} {n : Nat} {lv : Value} {k : Str} {t : Tok} {l : Option Str} {lp : Bool} {vs : List Value} {r : Ops} : (a, tupO [lv, .str k t] n) ∈ news → LabIn lv l → ([Str.ofString "for", Str.ofString "range"].any fun x => x == k) = lp → OpensIn news vs r → OpensIn news (.ref a :: vs) ((l, lp) :: r)
structure ChkIn (w : World) (c td ud op : Addr) (os : List Value) (o : Ops) (rest : List (Addr × Obj)) : Prop where
  inst : ∃ dx t1 t2 t3 n, (c, instObj 138 dx) ∈ rest ∧ (dx, chkD w td ud op t1 t2 t3 n) ∈ rest
  opens : OpensIn rest os o
  apart : ∀ p ∈ rest, p.1 ≠ op ∧ p.1 ≠ ud ∧ p.1 ≠ td
  ne : op ≠ ud ∧ op ≠ td ∧ ud ≠ td
  low : (td == sysModules) = false ∧ (ud == sysModules) = false
noncomputable abbrev mutL (td ud op : Addr) (o1 o2 : Obj) (os : List Value) (k : Nat) : List (Addr × Obj) := [(op, listOf os.toArray k), (ud, o2), (td, o1)]
/-- a call that may leave by a FlowFault; pre: what it may change, rest: what it leaves -/
noncomputable def CallM (w : World) (mean : ExcName → Option Value) (mg mb : Str → Option Value) (need : Nat) (f : Addr) (vs : List Value) (pre rest : List (Addr × Obj)) (Post : Value → List (Addr × Obj) → Prop) (X : Prop) : Prop :=
  ∀ (dp un : Nat) (gd : Option (List Code)) (cn : Str) (cs : Scope) (a : Addr) (ccd : Value) (cl : List (Str × Addr)) (outer : List Env) (A₀ : Around) (base h₀ : Heap) (L : Addr) (m : Str → Option Value) (sH : Heap) (sG : Array GenState) (sD : Drawn) (sT : Nat) (sO : OsState) (Q E : Value → Shared → Prop),
    Below A₀ base outer h₀ → Fr h₀ L sH m → (hd.heap_1 w.params).In h₀ → News h₀ L sH (pre ++ rest) → Top hd.view_1 lo mean mg mb h₀ → cs.kind = .function → dp + need < recursionLimit → un + 8 * need < cLine →
    (∀ r nx h' tk', Fr h₀ L h' m → News h₀ L h' (nx ++ rest) → Post r nx → Q r { heap := h', gens := sG, drawn := sD, toks := tk', os := sO }) →
    (X → ∀ e g₂ h' tk', RaisedN base (envX cn cs L a ccd cl :: outer) e (.ref 45) rest h' → Fr h₀ L g₂ m → g₂.UpToSlots h' → E (.ref e) { heap := h', gens := sG, drawn := sD, toks := tk', os := sO }) →
    wpAny (model PySem.Challenge.rw_pf0071_01.prog w) (ktrTop dp un gd cn cs L a ccd cl outer) (call (.ref f) vs) Q E { heap := sH, gens := sG, drawn := sD, toks := sT, os := sO }

section
variable {prog : Program} {w : World} {A : Around} {E : Value → Shared → Prop} {env : Env}
theorem comp_assign {s : Shared} {elt iter : PySem.Expr} {x y : Str} {px py : Pos} {ifs : List PySem.Expr} {scope : Scope} {cl : List (Str × Addr)} {pos spos : Pos} {Q : Flow → Shared → Prop}
    (hsw : swapsWith (.ListComp elt [⟨.Name x px, iter, ifs, 0⟩] scope pos) (some (.Name y py)) spos.line env = pure true)
    (hh : A.handled = none) (hclos : closureFor scope env = pure cl) (hcell : ∀ y ∈ scope.names, y.2 ≠ .cell) (hkind : scope.kind = .function)
    (hnames : ∀ y ∈ scope.names, y.2 = .local → scope.names.lookup y.1 = some .local) (hx : scope.names.lookup x = some .local)
    (hy : env.kindOf y = some .local) (hp : (env.scope.kind == .class || (env.scope.kind == .module && env.locals != env.globals)) = false)
    (h : wpAny (model prog w) A (eval iter env) (fun xv s₁ => Held (∃ l vs, ∃ G : Nat → List Value → List (Addr × Obj) → Prop, ∃ h₀ m, xv = .ref l ∧ SeqAt s₁.heap l vs ∧ vs.length ≤ sizeLine ∧ Fr h₀ env.locals s₁.heap m ∧ G 0 [] [] ∧ CompTurn prog w A env scope cl x ifs elt vs G s₁ ∧
      (∀ D h' tk ys tl k, s₁.heap.objs.size ≤ D → G vs.length ys tl → Fr h₀ env.locals h' (fun z => if z = y then some (.ref D) else m z) → (∀ b o, b ≠ env.locals → s₁.heap.get? b = some o → h'.get? b = some o) → h'.get? D = some (listOf ys.toArray k) → (∀ p ∈ tl, h'.get? p.1 = some p.2 ∧ p.1 ≠ D ∧ s₁.heap.objs.size ≤ p.1) → Q .next { s₁ with heap := h', toks := tk }))) E s)
    (hs : ∀ x, foldedSetIterable iter env x = pure x) :
    wpAny (model prog w) A (exec (.Assign [.Name y py] (.ListComp elt [⟨.Name x px, iter, ifs, 0⟩] scope pos) spos) env) Q E s := by
  rw [exec_Assign_Name_used _ _ _ _ hsw]
  refine wpAny_bind (wpAny_standAt (wpAny_bind ?_))
  show wpAny _ A (do let _ ← comprehension (.ListComp elt [⟨.Name x px, iter, ifs, 0⟩] scope pos) scope env _ (newList []) false (eval iter env) (some (assign (.Name y py) env))) _ _ s
  refine wpAny_bind (wpAny_mono (wpAny_comprehension_free (use := some (assign (.Name y py) env)) (Q := fun _ s' => Q .next s') rfl hs hclos hkind hnames
    (wpAny_mono h (fun xv s₁ h₁ => ?_) fun _ _ e => e)) (fun _ s' hq => wpAny_pure (wpAny_pure hq)) fun _ _ e => e)
  obtain ⟨l, vs, G, h₀, m, rfl, hl, hsz, F, g0, hq, hQ⟩ := h₁
  refine comp_block (RR := fun acc C => compPost (model prog w) A E (some (assign (.Name y py) env)) (fun _ s' => Q .next s') acc C) hh hl hcell hkind hx hsz g0 hq ?_
  intro D C h' tk ys tl k mC hD hC hDC hn hG hk hDo ht
  have hLC : env.locals ≠ C := by rintro rfl; obtain ⟨o, _, _, ho, _⟩ := F.ns; rw [hC] at ho; cases ho
  have hLD : env.locals ≠ D := Nat.ne_of_lt (Nat.lt_of_lt_of_le F.ns.lt hD)
  have F' := F.keeps hk
  show wpAny _ A (assign (.Name y py) env (.ref D)) _ _ _
  refine wpAny_assign_Name (wpAny_storeName_local hy F'.ns (fun h₂ hn₂ hs₂ => ?_) hp)
  refine ⟨mC, hn.sameBut hs₂ (Ne.symm hLC), fun h₃ hs₃ => ?_⟩
  have F₂ := F'.set hn₂ hs₂
  have hC0 : h₀.get? C = none := by
    cases q : h₀.get? C with
    | none => rfl
    | some o => rw [F.keep _ _ q] at hC; cases hC
  have up : ∀ b o, b ≠ env.locals → b ≠ C → h'.get? b = some o → h₃.get? b = some o := fun b o hb hc e => hs₃.extBut b o hc (hs₂.extBut b o hb e)
  refine hQ D h₃ _ ys tl k hD hG ⟨hn₂.sameBut hs₃ hLC, fun b o e => hs₃.extBut b o (fun q => by rw [q, hC0] at e; cases e) (F₂.keep b o e), F.above⟩
    (fun b o hb e => up b o hb (by rintro rfl; rw [hC] at e; cases e) (hk b o e)) (up _ _ (Ne.symm hLD) hDC hDo) fun p hp => ⟨up _ _ (fun q => ?_) (ht p hp).2.2.1 (ht p hp).1, (ht p hp).2.1, (ht p hp).2.2.2⟩
  have := (ht p hp).2.2.2
  rw [q] at this
  exact absurd F.ns.lt (Nat.not_lt.mpr this)
end
end
section
set_option tactic.hygienic false
theorem ln32 : True := by
  k_with_none
  (k_with "room" => first | exact roomE (by assumption) | exact roomD (by assumption) (by first | decide | omega) | ((try simp only [depth_mark, depth_under_make, depth_under_kw, depth_in1, depth_deeper, depth_caller]); (try dsimp only [ktrTop]); omega))
  (k_with "mem" => first | exact List.mem_cons_self | (refine List.mem_cons_of_mem _ ?_; first | ktr_member | k_mem))
  (k_with "enter" => (refine' code_def (by first | (k_asm) | fail "no") (by first | (k_asm) | fail "no") (by first | (k_asm) | fail "no") (by first | (k_asm) | fail "no") (by first | (k_asm) | fail "no") (by first | (exact rfl) | fail "no") (by first | (exact rfl) | fail "no") (by first | (first | exact rfl | assumption) | fail "no") (by first | (k_is) | fail "no") (by first | (k_is) | fail "no") (by first | (k_room) | fail "no") (by first | (first | exact BindsTo.of_eq rfl | exact binds_K (by k_in) rfl (by k_is) rfl rfl rfl) | fail "no") (by first | (exact locs rfl) | fail "no") ?_ (by first | (exact rfl) | fail "no") (by first | (exact rfl) | fail "no") (by first | (exact rfl) | fail "no") (by first | (decide) | fail "no"); k_whole; intro g' L' h' FG' F' N' B' X' T'; (try dsimp only); (try k_fold); (try (refine (let en9 := _; let ar9 := Around.deeper _ en9; (?_ : wpAny _ ar9 (execs _ en9) _ _ _))))))
  (k_with "exec For Name Name cons nil" => (k_here; (rename Fr _ _ _ _ => lF'); (with_unfolding_all refine' For_invVF lF' (by first | (exact rfl) | fail "no") (by first | (exact rfl) | fail "no") ?_; k_whole)))
  (k_with "exec For Name Call cons nil" => (k_here; (rename Fr _ _ _ _ => lF'); (with_unfolding_all refine' For_invVF lF' (by first | (exact rfl) | fail "no") (by first | (exact rfl) | fail "no") ?_; k_whole)))
  (k_with "pyIter ref" => (refine Held.out ?_))
  (k_with "subscriptTail" => (k_here; (with_reducible show wpAny _ _ (subscriptTail _ _ (Value.ref _) (Value.int 0 _)) _ _ _); k_dflt (refine' item0 (by first | (exact News.isTup (by k_asm) (by k_mem)) | fail "no") ?_ (by first | (with_unfolding_all rfl) | fail "no"); k_whole)))
  (k_with "compareOp NotIn str ref" => (k_here; (with_reducible show wpAny _ _ (compareOp CmpOp.NotIn (Value.str _ _) (Value.ref _)) _ _ _); (with_unfolding_all refine' notin_tuple_strs (by first | ((refine' tupK (by first | (k_in) | fail "no") (by first | (k_dflt k_is) | fail "no"))) | fail "no") (by first | (repeat constructor) | fail "no") ?_; k_whole)))
  (k_with "ite" => (refine ite_no (by first | ((simp only [beq_eq_false_iff_ne, ne_eq]; assumption)) | fail "no") ?_))
  (k_with "TurnPost" => (dsimp only [TurnPost]))
  trivial

/-- the end of a raise: an exception of the text is in the ledger -/
noncomputable def RaiseFin (E : Value → Shared → Prop) (v : Value) (s₁ : Shared) : Prop :=
  ∃ (K : Frag) (e : Addr) (oe : Obj) (C : Addr) (a0 : Value), v = .ref e ∧ K.In s₁.heap ∧ s₁.heap.get? e = some oe ∧ oe.cls = .ref C ∧ oe.data = .fields #[a0, .none, .none, .none, .bool false, .none] ∧ (∃ oC, s₁.heap.get? C = some oC ∧ oC.cls = .type "type") ∧ mroIn K C (.type "BaseException") = some true ∧ E (.ref e) s₁
section
variable {M : Model} {A : Around} {E : Value → Shared → Prop} {env : Env}
set_option maxRecDepth 100000 in
theorem raise_stmt {s : Shared} {x : Sem Value} {Q : Flow → Shared → Prop} (hh : A.handled = none)
    (h : wpAny M A x (RaiseFin E) E s) : wpAny M A (raiseStmt env (some x) none) Q E s := by
  unfold raiseStmt
  refine wpAny_bind (wpAny_mono h (fun v s₁ h₁ => ?_) fun _ _ x => x)
  obtain ⟨K, e, oe, C, a0, rfl, X, he, hc, hda, ⟨oC, hC, hCt⟩, hb, hE⟩ := h₁
  obtain ⟨hp, g, d, tk, os⟩ := s₁
  obtain ⟨oc, od, oda, osl⟩ := oe
  dsimp only at hc hda X he hC
  subst hc hda
  have Lb : Looks M hp (isSubtype (.ref C) (.type "BaseException")) true := looks_mroIn X hb
  repeat (first | with_reducible refine wpAny_loadPart_at he ?_ | with_reducible refine Lb.at ?_ | wp_step)
  exact wpAny_raiseNew_none hh hE
theorem raise_exec {s : Shared} {c : PySem.Expr} {pos : Pos} {Q : Flow → Shared → Prop} (hh : A.handled = none)
    (h : wpAny M A (eval c env) (RaiseFin E) E s) : wpAny M A (exec (.Raise (some c) none pos) env) Q E s := by
  rw [arm_exec_Raise]
  first
    | exact wpAny_bind (wpAny_standAt (raise_stmt hh h))
    | exact wpAny_bind (wpAny_standAt (raise_stmt hh (wpAny_bind (wpAny_mono h (fun v s₃ h₃ => wpAny_bind (wpAny_standAt (wpAny_pure h₃))) fun _ _ x => x))))
    | (simp only [evalOpt, Option.map]; exact wpAny_bind (wpAny_standAt (raise_stmt hh (wpAny_bind (wpAny_mono h (fun v s₃ h₃ => wpAny_bind (wpAny_standAt (wpAny_pure h₃))) fun _ _ x => x)))))
end
section
variable {M : Model} {A : Around} {E : Value → Shared → Prop} {s' : Shared} {base g g₂ : Heap} {outer : List Env} {env : Env} {L e : Addr} {m : Str → Option Value} {Q : Unit → Shared → Prop} {rest : List (Addr × Obj)}
theorem leave_newO {eo : Obj} {C : Addr} {a0 : Value} (hA : A.frames = some (env :: outer)) (hf : env.frame = some L) (hk : env.scope.kind = .function) {A₀ : Around} (B : Below A₀ base outer g) (F : Fr g L s'.heap m) (N : News g L s'.heap ((e, eo) :: rest)) (hr : ∀ p ∈ rest, p.1 < e)
    (hc : eo.cls = .ref C) (hd : eo.data = .fields #[a0, .none, .none, .none, .bool false, .none])
    (hQ : ∀ h', RaisedN base outer e (.ref C) rest h' → g.UpToSlots h' → Q () { s' with heap := h' }) :
    wpAny M A (leaving env (.ref e)) Q E s' := by
  have B' := pushX B F hf hk
  have hin : ∀ env' ∈ (env :: outer), ∀ b, env'.frame = some b → b ∈ e :: (env :: outer).filterMap (·.frame) := fun env' he b hb => .tail _ (List.mem_filterMap.mpr ⟨env', he, hb⟩)
  have he0 := N (e, eo) (.head _)
  have st : base.StaysIn (hideAll s'.heap (e :: (env :: outer).filterMap (·.frame))) := fun b o q => hideAll_get _ (B'.stays b o q) fun hm => by
    rcases List.mem_cons.mp hm with rfl | hm
    · have := B.stays _ _ q
      rw [he0.2.2] at this; cases this
    · rw [(B'.frames.mem hm).1] at q; cases q
  have hl : ∀ q ∈ rest, (hideAll s'.heap (e :: (env :: outer).filterMap (·.frame))).get? q.1 = some q.2 ∧ base.get? q.1 = none := fun q hq => by
    have Nq := N q (.tail _ hq)
    refine ⟨hideAll_get _ Nq.1 fun hm => ?_, fresh_of_stays B.stays Nq.2.2⟩
    rcases List.mem_cons.mp hm with h | hm
    · exact Nat.ne_of_lt (hr q hq) h
    · obtain ⟨env', he, hf'⟩ := List.mem_filterMap.mp hm
      rcases List.mem_cons.mp he with rfl | he
      · rw [hf] at hf'; exact Nq.2.1 (Option.some.inj hf').symm
      · obtain ⟨o, ho, _⟩ := (B.frames.mem (List.mem_filterMap.mpr ⟨env', he, hf'⟩)).2
        rw [Nq.2.2] at ho; cases ho
  have hen : (hideAll s'.heap (e :: (env :: outer).filterMap (·.frame))).get? e = none := hideAll_none _ (.head _)
  refine wpAny_leaving_firstW (a0 := a0) hA (funFrames_hide B'.frames hin) hf he0.1 (fun b o hb => of_hideAll _ hb) hen hd rfl rfl fun h' hL => ?_
  obtain ⟨k1, ⟨_, _, k2⟩, k3, k4⟩ := hL
  exact hQ h' ⟨_, a0, st, hl, k1, hen, k2, by rw [← hc]; exact k3⟩ ((Heap.UpToSlots.of_keeps F.keep).trans k4)
theorem leave_onX {cls : Value} (hA : A.frames = some (env :: outer)) (hf : env.frame = some L) (F : Fr g L g₂ m) (R : RaisedN base (env :: outer) e cls rest s'.heap) (hsm : g₂.UpToSlots s'.heap)
    (hQ : ∀ h', RaisedN base outer e cls rest h' → g.UpToSlots h' → Q () { s' with heap := h' }) :
    wpAny M A (leaving env (.ref e)) Q E s' := by
  obtain ⟨B, a0, hB, hl, hfl⟩ := R
  exact wpAny_leaves_onW hA hf hfl fun h' x1 x2 => hQ h' ⟨B, a0, hB, hl, x1⟩ ((Heap.UpToSlots.of_keeps F.keep).trans (hsm.trans x2))
theorem raised_sub {l : List Env} {cls : Value} {rest' : List (Addr × Obj)} {h : Heap} (R : RaisedN base l e cls rest h) (hs : ∀ p ∈ rest', p ∈ rest) : RaisedN base l e cls rest' h := by
  obtain ⟨B, a0, hB, hl, hfl⟩ := R
  exact ⟨B, a0, hB, fun q hq => hl q (hs q hq), hfl⟩
end

/-- what a checking function leaves -/
noncomputable def MutPost (w : World) (td ud op : Addr) (os : List Value) (res : Option CSt) (r : Value) (nx : List (Addr × Obj)) : Prop :=
  ∃ s' o1 o2 k, res = some s' ∧ nx = mutL td ud op o1 o2 os k ∧ Keys w o1 s'.told ∧ Keys w o2 s'.used ∧ r = .none
theorem stored_keys (x : Str) (v : Value) : ∀ kvs : List (Str × Value), (stored kvs x v).map (·.1) = keyIn x (kvs.map (·.1)) := by
  intro kvs
  have e : kvs.any (fun kv => decide (kv.1 = x)) = decide (x ∈ kvs.map (·.1)) := by
    rw [Bool.eq_iff_iff, List.any_eq_true, decide_eq_true_iff, List.mem_map]
    exact ⟨fun ⟨p, hp, hx⟩ => ⟨p, hp, of_decide_eq_true hx⟩, fun ⟨p, hp, hx⟩ => ⟨p, hp, decide_eq_true hx⟩⟩
  unfold stored keyIn
  rw [e]
  by_cases hx : x ∈ kvs.map (·.1)
  · rw [if_pos hx, if_pos (by simpa using hx), List.map_map]
    refine List.map_congr_left fun p _ => ?_
    show (if p.1 = x then (p.1, v) else p).1 = p.1
    by_cases hp : p.1 = x
    · rw [if_pos hp]
    · rw [if_neg hp]
  · rw [if_neg hx, if_neg (by simpa using hx), List.map_append]; rfl
theorem mem_keyIn {x y : Str} {ks : List Str} (h : y ∈ keyIn x ks) : y ∈ ks ∨ y = x := by
  unfold keyIn at h
  split at h
  · exact .inl h
  · rcases List.mem_append.mp h with h | h
    · exact .inl h
    · exact .inr (List.mem_singleton.mp h)
theorem setItem_M {w : World} {A : Around} {E : Value → Shared → Prop} {s : Shared} {h₀ : Heap} {L d : Addr} {m : Str → Option Value} {news news' : List (Addr × Obj)} {o : Obj} {ks : List Str} {x : Str} {t : Tok} {v : Value} {dv : PyData} {Q : Unit → Shared → Prop}
    (F : Fr h₀ L s.heap m) (N : News h₀ L s.heap news) (hm : (d, o) ∈ news) (hoff : ∀ p ∈ news', p.1 ≠ d) (hsub : ∀ p ∈ news', p ∈ news) (K : Keys w o ks) (hx : x.length ≤ 40) (hv : Flat v dv) (hz : ks.length ≤ 1000)
    (h : ∀ h' o', Fr h₀ L h' m → News h₀ L h' ((d, o') :: news') → Keys w o' (keyIn x ks) → Q () { s with heap := h', toks := s.toks + 1 }) : wpAny (model pg w) A (setItem (.ref d) (.str x t) v) Q E s := by
  obtain ⟨kvs, D, hd, hf, rfl, hxs⟩ := K
  have N' : News h₀ L s.heap ((d, o) :: news') := fun p hp => by
    rcases List.mem_cons.mp hp with rfl | hp
    · exact N _ hm
    · exact N _ (hsub p hp)
  refine setItem_K (K := Str) PyProof.V.same_str (strKind_is _ _ _ _) hv F N' (.head hoff) hd hf (fun h' o' F' N' hd' hf' => h h' o' F' N' ⟨_, _, hd', hf', stored_keys x v kvs, fun y hy => (mem_keyIn hy).elim (hxs y) fun e => e ▸ hx⟩) ?_
  rw [hf.length, sizeLine_eq]
  rw [List.length_map] at hz
  omega
end
section
set_option tactic.hygienic false
theorem ln33 : True := by
  k_with_none
  (k_with "room" => first | exact roomE (by assumption) | exact roomD (by assumption) (by first | decide | omega) | ((try simp only [depth_mark, depth_under_make, depth_under_kw, depth_in1, depth_deeper, depth_caller]); (try dsimp only [ktrTop]); omega))
  (k_with "mem" => first | exact List.mem_cons_self | (refine List.mem_cons_of_mem _ ?_; first | ktr_member | k_mem))
  (k_with "enter" => (refine' code_def (by first | (k_asm) | fail "no") (by first | (k_asm) | fail "no") (by first | (k_asm) | fail "no") (by first | (k_asm) | fail "no") (by first | (k_asm) | fail "no") (by first | (exact rfl) | fail "no") (by first | (exact rfl) | fail "no") (by first | (first | exact rfl | assumption) | fail "no") (by first | (k_is) | fail "no") (by first | (k_is) | fail "no") (by first | (k_room) | fail "no") (by first | (first | exact BindsTo.of_eq rfl | exact binds_K (by k_in) rfl (by k_is) rfl rfl rfl) | fail "no") (by first | (exact locs rfl) | fail "no") ?_ (by first | (exact rfl) | fail "no") (by first | (exact rfl) | fail "no") (by first | (exact rfl) | fail "no") (by first | (decide) | fail "no"); k_whole; intro g' L' h' FG' F' N' B' X' T'; (try dsimp only); (try k_fold); (try (refine (let en9 := _; let ar9 := Around.deeper _ en9; (?_ : wpAny _ ar9 (execs _ en9) _ _ _))))))
  (k_with "exec For Name Name cons nil" => (k_here; (rename Fr _ _ _ _ => lF'); (with_unfolding_all refine' For_invVF lF' (by first | (exact rfl) | fail "no") (by first | (exact rfl) | fail "no") ?_; k_whole)))
  (k_with "exec For Name Call cons nil" => (k_here; (rename Fr _ _ _ _ => lF'); (with_unfolding_all refine' For_invVF lF' (by first | (exact rfl) | fail "no") (by first | (exact rfl) | fail "no") ?_; k_whole)))
  (k_with "pyIter ref" => (refine Held.out ?_))
  (k_with "subscriptTail" => (k_here; (with_reducible show wpAny _ _ (subscriptTail _ _ (Value.ref _) (Value.int 0 _)) _ _ _); k_dflt (refine' item0 (by first | (exact News.isTup (by k_asm) (by k_mem)) | fail "no") ?_ (by first | (with_unfolding_all rfl) | fail "no"); k_whole)))
  (k_with "compareOp NotIn str ref" => (k_here; (with_reducible show wpAny _ _ (compareOp CmpOp.NotIn (Value.str _ _) (Value.ref _)) _ _ _); (with_unfolding_all refine' notin_tuple_strs (by first | ((refine' tupK (by first | (k_in) | fail "no") (by first | (k_dflt k_is) | fail "no"))) | fail "no") (by first | (repeat constructor) | fail "no") ?_; k_whole)))
  (k_with "ite" => (refine ite_no (by first | ((simp only [beq_eq_false_iff_ne, ne_eq]; assumption)) | fail "no") ?_))
  (k_with "TurnPost" => (dsimp only [TurnPost]))
  trivial

theorem ln34 : True := by
  (k_with "fold" => (first | (fail_if_success k_fold) | (refine (let qk : _ → Shared → Prop := _; (?_ : wpAny _ _ _ qk _ _)))))
  (k_with "enter" => (refine' code_defC (by first | (k_asm) | fail "no") (by first | (k_asm) | fail "no") (by first | (k_asm) | fail "no") (by first | (k_asm) | fail "no") (by first | (k_asm) | fail "no") (by first | (exact rfl) | fail "no") (by first | (exact rfl) | fail "no") (by first | (first | exact rfl | assumption) | fail "no") (by first | (k_is) | fail "no") (by first | (k_is) | fail "no") (by first | (k_room) | fail "no") (by first | (first | exact BindsTo.of_eq rfl | exact binds_K (by k_in) rfl (by k_is) rfl rfl rfl) | fail "no") (by first | (exact rfl) | fail "no") (by first | (decide +kernel) | fail "no") ?_ (by first | (exact rfl) | fail "no") (by first | (exact rfl) | fail "no") (by first | (exact rfl) | fail "no"); k_whole; intro g' L' h' tk' cells' FG' F' N' Y' B' X' T' l1; (try k_lt l1); k_cells Y'; (try simp only [List.cons_append, List.nil_append] at N'); (try dsimp only); (try k_fold); (try (refine (let en9 := _; let ar9 := Around.deeper _ en9; (?_ : wpAny _ ar9 (execs _ en9) _ _ _))))))
  trivial

theorem ne_succ {N : List (Addr × Obj)} {L : Addr} (l : ∀ p ∈ N, p.1 < L) : ∀ p ∈ N, p.1 ≠ L + 1 := fun p hp => Nat.ne_of_lt (Nat.lt_succ_of_lt (l p hp))
theorem ne_succ2 {N : List (Addr × Obj)} {L : Addr} (l : ∀ p ∈ N, p.1 < L) : ∀ p ∈ N, p.1 ≠ L + 1 + 1 := fun p hp => Nat.ne_of_lt (Nat.lt_succ_of_lt (Nat.lt_succ_of_lt (l p hp)))
theorem ne_cons {a c : Addr} {o : Obj} {N : List (Addr × Obj)} (h : a ≠ c) (t : ∀ p ∈ N, p.1 ≠ c) : ∀ p ∈ (a, o) :: N, p.1 ≠ c := fun p hp => by
  rcases List.mem_cons.mp hp with rfl | hp
  · exact h
  · exact t p hp
theorem ln35 : True := by
  (k_with "all" => first | exact ne_succ (by assumption) | exact ne_succ2 (by assumption) | exact ne_cons (by omega) (ne_succ (by assumption)) | exact ne_cons (by omega) (ne_succ2 (by assumption)))
  (k_with "compareOp In str ref" => (k_here; (with_reducible show wpAny _ _ (compareOp CmpOp.In (Value.str _ _) (Value.ref _)) _ _ _); (with_unfolding_all refine' in_tuple_strs (by first | ((refine' tupK (by first | (k_in) | fail "no") (by first | (k_dflt k_is) | fail "no"))) | fail "no") (by first | (repeat constructor) | fail "no") ?_; k_whole)))
  trivial

theorem nameE_K {M : Model} {A : Around} {E : Value → Shared → Prop} {s : Shared} {K : Frag} {h₀ : Heap} {C : Addr} {m mg mb : Str → Option Value} {env : Env} {p : Program} {loose : List Str} {x : Str} {pos : Pos} {v : Value} {Q : Value → Shared → Prop}
    (F : Fr h₀ C s.heap m) (X : K.In h₀) (T : TopRead p loose mg mb h₀) (e : nsIn K mainGlobals x = some (some v)) (hg : env.globals = mainGlobals) (h : Q v s)
    (hk : env.scope.kind = .function) (hx : env.kindOf x = some .globalImplicit) (hd : (x == ("__debug__" : Str)) = false) : wpAny M A (eval (.Name x pos) env) Q E s :=
  Name_function_global hk hx (loadGlobal_global (env := env) (hg ▸ T.g.keeps F.keep) (mg_of X T.g e) h) hd
theorem ln36 : True := by
  (k_with "eval Name" => (k_here; (with_reducible show wpAny _ _ (eval (PySem.Expr.Name _ _) (compEnvC _ _ _ _)) _ _ _); (with_reducible rename Fr _ _ _ _ => kF); k_dflt (refine' nameE_K (K := hd.heap_1 _) kF (by first | (k_asm) | fail "no") (by first | (k_asm) | fail "no") (by first | (k_is) | fail "no") (by first | (exact rfl) | fail "no") ?_ (by first | (exact rfl) | fail "no") (by first | (exact rfl) | fail "no") (by first | (decide) | fail "no"); k_whole)))
  (k_with "compareOp Eq ref ref" => (k_here; k_dflt (refine' eq_nilL (by first | (exact News.isList (by k_asm) (by k_mem)) | fail "no") (by first | (exact News.isList (by k_asm) (by k_mem)) | fail "no") (by first | (((try simp only [units_in1, units_deeper, Around.mark_units, units_caller]); (try dsimp only [ktrTop]); (rename _ < cLine => lU'); exact Nat.lt_of_le_of_lt (Nat.add_le_add_left (by decide) _) lU')) | fail "no") ?_)))
  (k_with "exec Raise some none" => (k_here; k_dflt (refine raise_exec (by exact rfl) ?_)))
  (k_with "call ref" => (k_here; (with_reducible show wpAny _ _ (call (Value.ref 45) _) _ _ _); (try k_extra "fold"); k_dflt (refine' Call.go (by first | (k_asm) | fail "no") (by first | (k_asm) | fail "no") (by first | (k_asm) | fail "no") (by first | (k_asm) | fail "no") (by first | (k_asm) | fail "no") (by first | (first | exact rfl | assumption) | fail "no") fault_spec (by first | (((try simp only [depth_mark, depth_under_make, depth_under_kw, depth_in1, depth_deeper, depth_caller]); (try dsimp only [ktrTop]); (rename _ < recursionLimit => lU'); first | (refine Nat.lt_of_le_of_lt ?_ lU'; rw [Nat.add_assoc]; exact Nat.add_le_add_left (by decide) _))) | fail "no") (by first | (((try simp only [units_in1, units_deeper, Around.mark_units, units_caller]); (try dsimp only [ktrTop]); (rename _ < cLine => lU'); first | (refine Nat.lt_of_le_of_lt ?_ lU'; rw [Nat.add_assoc]; exact Nat.add_le_add_left (by decide) _))) | fail "no") ?_); intro r9 tl9 h9 tk9 F9 N9 l9 P9; (obtain ⟨e9, eo9, a9, q1, q2, c9, d9⟩ := P9); subst q1; subst q2; (have l8 := l9 _ (List.mem_singleton.mpr rfl)); clear l9; simp only [List.singleton_append] at N9; (try dsimp only at l8); (try k_unfold); (try dsimp only); (try k_extra "fold")))
  (k_with "RaiseFin" => ((rename Fr _ _ _ _ => lF'); (rename News _ _ _ _ => lN'); (rename Frag.In _ _ => lX'); refine ⟨_, _, _, 45, _, rfl, lX'.keeps lF'.keep, (lN' _ (List.Mem.head _)).1, (by assumption), (by assumption), ⟨_, (lX'.keeps lF'.keep) 45 _ (by exact rfl), rfl⟩, (by exact rfl), ?_⟩; (try dsimp only)))
  (k_with "exec Assign cons ListComp" => (k_here; (with_unfolding_all refine' comp_assign (by first | (exact rfl) | fail "no") (by first | (exact rfl) | fail "no") (by first | (exact rfl) | fail "no") (by first | (decide) | fail "no") (by first | (exact rfl) | fail "no") (by first | (decide) | fail "no") (by first | (exact rfl) | fail "no") (by first | (exact rfl) | fail "no") (by first | (exact rfl) | fail "no") ?_ (by first | ((intro _; rfl)) | fail "no"); k_whole)))
  trivial

theorem OpensIn.length {news : List (Addr × Obj)} {vs : List Value} {o : Ops} (h : OpensIn news vs o) : vs.length = o.length := by
  induction h with
  | nil => rfl
  | cons _ _ _ _ ih => exact congrArg Nat.succ ih
theorem OpensIn.get {news : List (Addr × Obj)} {vs : List Value} {o : Ops} {i : Nat} {v : Value} (h : OpensIn news vs o) (e : vs[i]? = some v) : ∃ a n lv k t l lp, v = .ref a ∧ o[i]? = some (l, lp) ∧ (a, tupO [lv, .str k t] n) ∈ news ∧ LabIn lv l ∧ ([Str.ofString "for", Str.ofString "range"].any fun x => x == k) = lp := by
  induction h generalizing i with
  | nil => exact none_at e
  | cons h1 h2 h3 _ ih =>
    cases i with
    | zero => cases e; exact ⟨_, _, _, _, _, _, _, rfl, rfl, h1, h2, h3⟩
    | succ i => exact ih e
theorem OpensIn.snoc {news : List (Addr × Obj)} {a : Addr} {n : Nat} {lv : Value} {k : Str} {t : Tok} {l : Option Str} {lp : Bool} (h1 : (a, tupO [lv, .str k t] n) ∈ news) (h2 : LabIn lv l) (h3 : ([Str.ofString "for", Str.ofString "range"].any fun x => x == k) = lp) : ∀ {vs : List Value} {o : Ops}, OpensIn news vs o → OpensIn news (vs ++ [.ref a]) (o ++ [(l, lp)])
  | _, _, .nil => .cons h1 h2 h3 .nil
  | _, _, .cons g1 g2 g3 r => .cons g1 g2 g3 (r.snoc h1 h2 h3)
theorem OpensIn.mono {news news' : List (Addr × Obj)} (hs : ∀ p ∈ news, p ∈ news') : ∀ {vs : List Value} {o : Ops}, OpensIn news vs o → OpensIn news' vs o
  | _, _, .nil => .nil
  | _, _, .cons h1 h2 h3 r => .cons (hs _ h1) h2 h3 (r.mono hs)
theorem OpensIn.nil_iff {news : List (Addr × Obj)} {vs : List Value} {o : Ops} (h : OpensIn news vs o) : vs = [] ↔ o = [] := by
  cases h <;> simp
theorem filter_take {α : Type} {p : α → Bool} {l : List α} {i : Nat} {x : α} (h : l[i]? = some x) : (l.take (i + 1)).filter p = (l.take i).filter p ++ (if p x = true then [x] else []) := by
  rw [List.take_add_one, h, List.filter_append]
  show _ ++ (match p x with | true => [x] | false => []) = _
  cases p x <;> rfl
theorem news_newF {h₀ h h' : Heap} {L D : Addr} {o : Obj} {m : Str → Option Value} {news : List (Addr × Obj)} (F : Fr h₀ L h m) (N : News h₀ L h news) (hD : h.objs.size ≤ D) (hk : ∀ b o, b ≠ L → h.get? b = some o → h'.get? b = some o) (hDo : h'.get? D = some o) :
    News h₀ L h' ((D, o) :: news) := fun p hp => by
  rcases List.mem_cons.mp hp with rfl | hp
  · have hn : h.get? D = none := Heap.get?_none_of_le hD
    refine ⟨hDo, fun e => ?_, ?_⟩
    · have := F.ns.lt; rw [← e] at this; exact Nat.lt_irrefl _ (Nat.lt_of_lt_of_le this hD)
    · cases q : h₀.get? D with
      | none => rfl
      | some o' => rw [F.keep _ _ q] at hn; cases hn
  · exact ⟨hk _ _ (N p hp).2.1 (N p hp).1, (N p hp).2⟩
theorem ln37 : True := by
  (k_with "leaving ref" => (k_here; (rename Fr _ _ _ _ => lF'); (rename News _ _ _ _ => lN'); (rename Below _ _ _ _ => lB'); k_dflt (refine leave_newO rfl rfl rfl lB' lF' lN' (by assumption) (by assumption) (by assumption) ?_); intro h' R' U'; (try dsimp only)))
  (k_with "setItem ref str" => (refine Held.out ?_))
  trivial

theorem filter_and {α : Type} (p q : α → Bool) : ∀ l : List α, (l.filter p).filter q = l.filter fun x => p x && q x
  | [] => rfl
  | x :: l => by
    rw [List.filter_cons, List.filter_cons]
    cases h : p x with
    | false => rw [if_neg (by decide), if_neg (by simp), filter_and p q l]
    | true => rw [if_pos rfl, List.filter_cons, filter_and p q l]; rfl
theorem setItem_M4 {w : World} {A : Around} {E : Value → Shared → Prop} {s : Shared} {h₀ : Heap} {L d : Addr} {m : Str → Option Value} {p1 p2 p3 p4 : Addr × Obj} {post : List (Addr × Obj)} {o : Obj} {ks : List Str} {x : Str} {t : Tok} {v : Value} {dv : PyData} {Q : Unit → Shared → Prop}
    (F : Fr h₀ L s.heap m) (N : News h₀ L s.heap (p1 :: p2 :: p3 :: p4 :: (d, o) :: post)) (h1 : p1.1 ≠ d) (h2 : p2.1 ≠ d) (h3 : p3.1 ≠ d) (h4 : p4.1 ≠ d) (h5 : ∀ p ∈ post, p.1 ≠ d) (K : Keys w o ks) (hx : x.length ≤ 40) (hv : Flat v dv) (hz : ks.length ≤ 1000)
    (h : ∀ h' o', Fr h₀ L h' m → News h₀ L h' (p1 :: p2 :: p3 :: p4 :: (d, o') :: post) → Keys w o' (keyIn x ks) → Q () { s with heap := h', toks := s.toks + 1 }) : wpAny (model pg w) A (setItem (.ref d) (.str x t) v) Q E s := by
  refine setItem_M (news' := p1 :: p2 :: p3 :: p4 :: post) F N (.tail _ (.tail _ (.tail _ (.tail _ (.head _))))) (fun p hp => ?_) (fun p hp => ?_) K hx hv hz fun h' o' F' N' K' => h h' o' F' (news_sub N' fun p hp => ?_) K'
  · simp only [List.mem_cons] at hp
    rcases hp with rfl | rfl | rfl | rfl | hp
    · exact h1
    · exact h2
    · exact h3
    · exact h4
    · exact h5 p hp
  · simp only [List.mem_cons] at hp ⊢
    rcases hp with h | h | h | h | h <;> simp [h]
  · simp only [List.mem_cons] at hp ⊢
    rcases hp with h | h | h | h | h | h <;> simp [h]
theorem OpensIn.short {news : List (Addr × Obj)} {vs os : List Value} {o : Ops} {p : Option Str × Bool → Bool} (h : OpensIn news vs (o.filter p)) (h' : OpensIn news os o) (hz : os.length ≤ 1000) : vs.length ≤ 1000 := by
  rw [h.length]
  exact Nat.le_trans (List.length_filter_le _ _) (h'.length ▸ hz)
section
variable {w : World} {mean : ExcName → Option Value} {mg mb : Str → Option Value} {rest : List (Addr × Obj)}
theorem add_lab {x a : Str} (hx : x.length ≤ 40) (ha : a.length ≤ 100) : a.length + x.length ≤ sizeLine := by rw [sizeLine_eq]; omega
theorem add_lab2 {x a b : Str} (hx : x.length ≤ 40) (ha : a.length ≤ 100) (hb : b.length ≤ 100) : (a ++ x).length + b.length ≤ sizeLine := by rw [Str.length_append, sizeLine_eq]; omega
theorem ln38 : True := by
  (k_with "binaryOp Add str str" => (k_here; k_dflt (first | refine add_str ?_ (add_lab (by assumption) (by decide)) | refine add_str ?_ (add_lab2 (by assumption) (by decide) (by decide))); intro t9 tk9; (try dsimp only)))
  trivial

set_option maxRecDepth 100000 in
set_option maxHeartbeats 8000000 in
theorem lead_spec {c td ud op a₁ : Addr} {n k : Nat} {kd : Str} {brk : Bool} {t u : Tok} {i : Int} {lv : Value} {l : Option Str} {os : List Value} {o : Ops} {o1 o2 : Obj} {cs₀ : CSt} (hkd : (kd = "break" ∧ brk = true) ∨ (kd = "continue" ∧ brk = false)) (hm : (a₁, tupO [.str kd t, .int i u, lv] n) ∈ rest) (hl : LabIn lv l) (CH : ChkIn w c td ud op os o rest)
  (k1 : Keys w o1 cs₀.told) (k2 : Keys w o2 cs₀.used) (h9 : os.length ≤ 1000) (h8 : cs₀.used.length ≤ 1000) :
  CallM w mean mg mb 10 128 [.ref c, .ref a₁] (mutL td ud op o1 o2 os k) rest (MutPost w td ud op os (lead brk l o cs₀)) (lead brk l o cs₀ = none) := by
  intro dp un gd cn cs a ccd cl outer A₀ base h₀ L m sH sG sD sT sO Q E B F X N T hk hdp hun ret exc
  obtain ⟨⟨dx, t1, t2, t3, nd, hc, hdx⟩, hop, hap, hne, _⟩ := CH
  have hb0 : brk = (kd == Str.ofString "break") := by rcases hkd with ⟨rfl, rfl⟩ | ⟨rfl, rfl⟩ <;> decide
  have hk40 : kd.length ≤ 40 := by rcases hkd with ⟨rfl, _⟩ | ⟨rfl, _⟩ <;> decide
  clear hkd
  cases hl
  all_goals (
    refine wpAny_call ?_
    k_dflt ktr_enter
    k_steps
    rename Fr _ _ _ _ => F9
    rename News _ _ _ _ => N9
    rename Frag.In _ _ => X9
    rename Top _ _ _ _ _ _ => T9
    rename ∀ p ∈ mutL td ud op o1 o2 os k ++ rest, _ => l5
    refine Held.intro ⟨op, os, fun i ys tl => tl = [] ∧ OpensIn rest ys ((o.take i).filter fun r => brk || r.2), _, _, rfl, .inr ⟨_, (N9 (op, listOf os.toArray k) (.tail _ (.tail _ (.head _)))).1, rfl, k, rfl⟩, Nat.le_trans h9 (by decide), F9, ⟨rfl, .nil⟩, ?_, ?_⟩
    · intro C i v ys tl s₃ mC E' hv hCs hG hn hm hkp ht
      obtain ⟨a', m1, lv', k', t', l', lp', rfl, g1, g2, g3, g4⟩ := hop.get hv
      have F8 := frInComp hn hkp hCs
      have N8 := News.grown N9 hkp
      have X8 := X9.keeps F9.keep
      have T8 := T9.keeps F9.keep
      try k_extra "fold"
      k_steps
      all_goals (rename (kd == _) = _ => hx9; have hb := hb0.trans hx9)
      all_goals first
      | (rename List.any _ _ = _ => he
         rw [g4] at he
         subst he
         refine Held.intro ⟨⟨s₃.heap, _, rfl, fun _ _ e => e⟩, ?_⟩)
      | refine Held.intro ⟨⟨s₃.heap, _, rfl, fun _ _ e => e⟩, ?_⟩
      all_goals first
      | (rw [if_neg (by decide)]
         exact ⟨hG.1, by rw [filter_take g1, if_neg (by rw [hb]; exact Bool.false_ne_true), List.append_nil]; exact hG.2⟩)
      | ((try rw [if_pos rfl])
         try k_extra "fold"
         k_steps
         exact Held.intro ⟨⟨s₃.heap, _, rfl, fun _ _ e => e⟩, [], fun _ h => (nomatch h), hG.1, by rw [filter_take g1, if_pos (by rw [hb]; rfl)]; exact hG.2.snoc g2 g3 g4⟩)
    intro D h' tk ys tl k₀ hD hG F8 hkp hDo ht
    have N8 := news_newF F9 N9 hD hkp hDo
    have hG2 := hG.2
    rw [hop.length, List.take_length] at hG2
    have l9 := news_lt N9 hD
    clear ht hDo N9 F9 hkp hG hD
    k_steps)
  all_goals first
  | (rename RaisedN _ _ _ _ _ _ => R9
     rename Heap.UpToSlots _ _ => U9
     rename List.isEmpty _ = true => he
     exact exc (if_pos (hG2.nil_iff.mp (List.isEmpty_iff.mp he))) _ _ _ _ (raised_sub R9 fun p hp => by first | exact .tail _ (.tail _ (.tail _ (.tail _ (.tail _ (.tail _ (.tail _ hp)))))) | exact .tail _ (.tail _ (.tail _ (.tail _ (.tail _ (.tail _ (.tail _ (.tail _ hp)))))))) (by assumption) U9)
  | (rename List.isEmpty _ = false => he
     exact ret _ (mutL td ud op o1 o2 os k) _ _ (by assumption) (news_sub (by assumption) fun p hp => by first | exact .tail _ (.tail _ (.tail _ (.tail _ hp))) | exact .tail _ (.tail _ (.tail _ hp))) ⟨cs₀, o1, o2, k, if_neg (fun e => by rw [hG2.nil_iff.mpr e] at he; cases he), rfl, k1, k2, rfl⟩)
  | skip
  all_goals (
    rename Fr _ _ _ _ => F7
    rename News _ _ _ _ => N7
    have u5 := l5 (ud, o2) (.tail _ (.head _))
    have u9 := l9 (ud, o2) (.tail _ (.tail _ (.tail _ (.head _))))
    refine Held.intro (setItem_M4 (dv := .bool true) F7 N7 (Nat.ne_of_gt u9) (Nat.ne_of_gt (Nat.lt_succ_of_lt (Nat.lt_succ_of_lt u5))) (Nat.ne_of_gt (Nat.lt_succ_of_lt u5)) hne.1 (fun p hp => ?_) k2 (by assumption) ?_ h8 ?_)
    · rcases List.mem_cons.mp hp with rfl | hp
      · exact Ne.symm hne.2.2
      · exact (hap p hp).2.1
    · exact .bool true
    intro h7 o2' F6 N6 K6
    clear F7 N7
    try dsimp only
    try k_extra "fold"
    k_steps
    rename Fr _ _ _ _ => F9
    rename News _ _ _ _ => N9
    rename Frag.In _ _ => X9
    rename Top _ _ _ _ _ _ => T9
    rename Str => x₀
    refine Held.intro ⟨D, ys, fun i zs tl => tl = [] ∧ OpensIn rest zs (((o.filter fun r => brk || r.2).take i).filter fun r => r.1 == some x₀), _, _, rfl, .inr ⟨_, (N9 (D, listOf ys.toArray k₀) (by k_mem)).1, rfl, k₀, rfl⟩, Nat.le_trans (hG2.short hop h9) (by decide), F9, ⟨rfl, .nil⟩, ?_, ?_⟩
    · intro C i v zs tl s₃ mC E' hv hCs hG hn hm hkp ht
      obtain ⟨a', m1, lv', k', t', l', lp', rfl, g1, g2, g3, g4⟩ := hG2.get hv
      have F8 := frInComp hn hkp hCs
      have N8 := News.grown N9 hkp
      have X8 := X9.keeps F9.keep
      have T8 := T9.keeps F9.keep
      cases g3
      all_goals k_steps
      all_goals refine Held.intro ⟨⟨s₃.heap, _, rfl, fun _ _ e => e⟩, ?_⟩
      all_goals first
      | (rw [if_neg (by exact Bool.false_ne_true)]
         exact ⟨hG.1, by rw [filter_take g1, if_neg (by exact Bool.false_ne_true), List.append_nil]; exact hG.2⟩)
      | split
      all_goals first
      | (rename (_ == _) = true => he
         try k_extra "fold"
         k_steps
         exact Held.intro ⟨⟨s₃.heap, _, rfl, fun _ _ e => e⟩, [], fun _ h => (nomatch h), hG.1, by rw [filter_take g1, if_pos (by exact he)]; exact hG.2.snoc g2 (.some (by assumption)) g4⟩)
      | (rename ¬((_ == _) = true) => he
         exact ⟨hG.1, by rw [filter_take g1, if_neg (by exact he), List.append_nil]; exact hG.2⟩)
    · intro D2 h' tk zs tl k₀ hD hG F8 hkp hDo ht
      have N8 := news_newF F9 N9 hD hkp hDo
      have hG3 := hG.2
      rw [hG2.length, List.take_length, filter_and] at hG3
      have l9 := news_lt N9 hD
      clear ht hDo N9 F9 hkp hG hD
      try k_extra "fold"
      k_steps
      all_goals first
      | (rename RaisedN _ _ _ _ _ _ => R9
         rename Heap.UpToSlots _ _ => U9
         rename List.isEmpty _ = true => he
         exact exc (if_pos (hG3.nil_iff.mp (List.isEmpty_iff.mp he))) _ _ _ _ (raised_sub R9 fun p hp => .tail _ (.tail _ (.tail _ (.tail _ (.tail _ (.tail _ (.tail _ (.tail _ hp)))))))) (by assumption) U9)
      | (rename List.isEmpty _ = false => he
         exact ret _ (mutL td ud op o1 o2' os k) _ _ (by assumption) (news_sub (by assumption) fun p hp => by first | exact .tail _ (.tail _ (.tail _ (.tail _ hp))) | exact .tail _ (.tail _ (.tail _ (.tail _ (.tail _ hp))))) ⟨⟨cs₀.told, keyIn x₀ cs₀.used⟩, o1, o2', k, if_neg (fun e => by rw [hG3.nil_iff.mpr e] at he; cases he), rfl, k1, K6, rfl⟩))
end
end
section
set_option tactic.hygienic false
theorem ln39 : True := by
  k_with_none
  (k_with "room" => first | exact roomE (by assumption) | exact roomD (by assumption) (by first | decide | omega) | ((try simp only [depth_mark, depth_under_make, depth_under_kw, depth_in1, depth_deeper, depth_caller]); (try dsimp only [ktrTop]); omega))
  (k_with "mem" => first | exact List.mem_cons_self | (refine List.mem_cons_of_mem _ ?_; first | ktr_member | k_mem))
  (k_with "enter" => (refine' code_def (by first | (k_asm) | fail "no") (by first | (k_asm) | fail "no") (by first | (k_asm) | fail "no") (by first | (k_asm) | fail "no") (by first | (k_asm) | fail "no") (by first | (exact rfl) | fail "no") (by first | (exact rfl) | fail "no") (by first | (first | exact rfl | assumption) | fail "no") (by first | (k_is) | fail "no") (by first | (k_is) | fail "no") (by first | (k_room) | fail "no") (by first | (first | exact BindsTo.of_eq rfl | exact binds_K (by k_in) rfl (by k_is) rfl rfl rfl) | fail "no") (by first | (exact locs rfl) | fail "no") ?_ (by first | (exact rfl) | fail "no") (by first | (exact rfl) | fail "no") (by first | (exact rfl) | fail "no") (by first | (decide) | fail "no"); k_whole; intro g' L' h' FG' F' N' B' X' T'; (try dsimp only); (try k_fold); (try (refine (let en9 := _; let ar9 := Around.deeper _ en9; (?_ : wpAny _ ar9 (execs _ en9) _ _ _))))))
  (k_with "exec For Name Name cons nil" => (k_here; (rename Fr _ _ _ _ => lF'); (with_unfolding_all refine' For_invVF lF' (by first | (exact rfl) | fail "no") (by first | (exact rfl) | fail "no") ?_; k_whole)))
  (k_with "exec For Name Call cons nil" => (k_here; (rename Fr _ _ _ _ => lF'); (with_unfolding_all refine' For_invVF lF' (by first | (exact rfl) | fail "no") (by first | (exact rfl) | fail "no") ?_; k_whole)))
  (k_with "pyIter ref" => (refine Held.out ?_))
  (k_with "subscriptTail" => (k_here; (with_reducible show wpAny _ _ (subscriptTail _ _ (Value.ref _) (Value.int 0 _)) _ _ _); k_dflt (refine' item0 (by first | (exact News.isTup (by k_asm) (by k_mem)) | fail "no") ?_ (by first | (with_unfolding_all rfl) | fail "no"); k_whole)))
  (k_with "compareOp NotIn str ref" => (k_here; (with_reducible show wpAny _ _ (compareOp CmpOp.NotIn (Value.str _ _) (Value.ref _)) _ _ _); (with_unfolding_all refine' notin_tuple_strs (by first | ((refine' tupK (by first | (k_in) | fail "no") (by first | (k_dflt k_is) | fail "no"))) | fail "no") (by first | (repeat constructor) | fail "no") ?_; k_whole)))
  (k_with "ite" => (refine ite_no (by first | ((simp only [beq_eq_false_iff_ne, ne_eq]; assumption)) | fail "no") ?_))
  (k_with "TurnPost" => (dsimp only [TurnPost]))
  trivial

/-! ## the lengths stay small -/
theorem keyIn_length (x : Str) (ks : List Str) : (keyIn x ks).length ≤ ks.length + 1 := by
  unfold keyIn; split
  · exact Nat.le_succ _
  · rw [List.length_append]; exact Nat.le_refl _
noncomputable def Grows (n : Nat) (s s' : CSt) : Prop := s'.told.length ≤ s.told.length + n ∧ s'.used.length ≤ s.used.length + n
theorem Grows.refl (n : Nat) (s : CSt) : Grows n s s := ⟨Nat.le_add_right _ _, Nat.le_add_right _ _⟩
theorem Grows.trans {n m k : Nat} {s s' s'' : CSt} (a : Grows n s s') (b : Grows m s' s'') (h : n + m ≤ k) : Grows k s s'' := ⟨by have := a.1; have := b.1; omega, by have := a.2; have := b.2; omega⟩
theorem lead_grows {brk : Bool} {l : Option Str} {o : Ops} {s s' : CSt} (h : lead brk l o s = some s') : Grows 1 s s' := by
  unfold lead at h
  cases l with
  | none =>
    dsimp only at h
    split at h
    · cases h
    · cases h; exact .refl _ _
  | some x =>
    dsimp only at h
    split at h
    · cases h
    · cases h; exact ⟨Nat.le_add_right _ _, keyIn_length x _⟩
theorem tell_grows {l : Option Str} {s s' : CSt} (h : tell l s = some s') : Grows 1 s s' := by
  unfold tell at h
  cases l with
  | none => cases h; exact .refl _ _
  | some x =>
    dsimp only at h
    split at h
    · cases h
    · cases h; exact ⟨by rw [List.length_append]; exact Nat.le_refl _, Nat.le_add_right _ _⟩
theorem bind_some {α β : Type} {x : Option α} {f : α → Option β} {y : β} (h : x.bind f = some y) : ∃ a, x = some a ∧ f a = some y := Option.bind_eq_some_iff.mp h
mutual
theorem chk1_grows {o : Ops} {s s' : CSt} : ∀ {st : St}, chk1 st o s = some s' → Grows st.sz s s'
  | .ret, h => by rw [chk1] at h; cases h; exact .refl _ _
  | .fall, h => by rw [chk1] at h; cases h; exact .refl _ _
  | .ex _, h => by rw [chk1] at h; cases h; exact .refl _ _
  | .brk l, h => by rw [chk1] at h; rw [St.sz]; exact lead_grows h
  | .cont l, h => by rw [chk1] at h; rw [St.sz]; exact lead_grows h
  | .for_ l c b, h => by
    rw [chk1] at h; obtain ⟨a, h1, h2⟩ := bind_some h
    rw [St.sz]; exact (tell_grows h1).trans (chks_grows h2) (by omega)
  | .rng l b, h => by
    rw [chk1] at h; obtain ⟨a, h1, h2⟩ := bind_some h
    rw [St.sz]; exact (tell_grows h1).trans (chks_grows h2) (by omega)
  | .sw l cs, h => by
    rw [chk1] at h; obtain ⟨a, h1, h2⟩ := bind_some h
    rw [St.sz]; exact (tell_grows h1).trans (chkC_grows h2) (by omega)
  | .cho l cs, h => by
    rw [chk1] at h; obtain ⟨a, h1, h2⟩ := bind_some h
    rw [St.sz]; exact (tell_grows h1).trans (chkC_grows h2) (by omega)
  | .blk b, h => by rw [chk1] at h; rw [St.sz]; exact (chks_grows h).trans (.refl 0 _) (by omega)
  | .if1 b, h => by rw [chk1] at h; rw [St.sz]; exact (chks_grows h).trans (.refl 0 _) (by omega)
  | .if2 b e, h => by
    rw [chk1] at h; obtain ⟨a, h1, h2⟩ := bind_some h
    rw [St.sz]; exact (chks_grows h1).trans (chk1_grows h2) (by omega)
theorem chks_grows {o : Ops} {s s' : CSt} : ∀ {b : Sts}, chks b o s = some s' → Grows b.sz s s'
  | .nil, h => by rw [chks] at h; cases h; exact .refl _ _
  | .cons st r, h => by
    rw [chks] at h; obtain ⟨a, h1, h2⟩ := bind_some h
    rw [Sts.sz]; exact (chk1_grows h1).trans (chks_grows h2) (Nat.le_refl _)
theorem chkC_grows {o : Ops} {s s' : CSt} : ∀ {c : Cs}, chkC c o s = some s' → Grows c.sz s s'
  | .nil, h => by rw [chkC] at h; cases h; exact .refl _ _
  | .cons _ b r, h => by
    rw [chkC] at h; obtain ⟨a, h1, h2⟩ := bind_some h
    rw [Cs.sz]; exact (chks_grows h1).trans (chkC_grows h2) (Nat.le_refl _)
end
theorem foldO_grows {α : Type} {f : α → CSt → Option CSt} {g : α → Nat} (hf : ∀ x s s', f x s = some s' → Grows (g x) s s') : ∀ {l : List α} {s s' : CSt}, foldO f l s = some s' → Grows (l.map g).sum s s'
  | [], s, s', h => by cases h; exact .refl _ _
  | x :: l, s, s', h => by
    obtain ⟨a, h1, h2⟩ := bind_some h
    rw [List.map_cons, List.sum_cons]
    exact (hf _ _ _ h1).trans (foldO_grows hf h2) (Nat.le_refl _)
theorem sum_toList : ∀ b : Sts, (b.toList.map St.sz).sum = b.sz
  | .nil => rfl
  | .cons s r => by rw [Sts.toList, List.map_cons, List.sum_cons, sum_toList r, Sts.sz]
theorem sum_bodies : ∀ c : Cs, (c.bodies.map Sts.sz).sum = c.sz
  | .nil => rfl
  | .cons _ b r => by rw [Cs.bodies, List.map_cons, List.sum_cons, sum_bodies r, Cs.sz]
theorem sum_inn (st : St) : (st.inn.map Sts.sz).sum + 1 ≤ st.sz := by
  cases st with
  | ret | fall | ex | brk | cont => rw [St.sz]; exact Nat.le_refl _
  | for_ l c b => rw [St.sz]; exact Nat.le_refl _
  | rng l b => rw [St.sz]; exact Nat.le_refl _
  | sw l cs => rw [St.sz]; show (cs.bodies.map Sts.sz).sum + 1 ≤ _; rw [sum_bodies]; exact Nat.le_refl _
  | cho l cs => rw [St.sz]; show (cs.bodies.map Sts.sz).sum + 1 ≤ _; rw [sum_bodies]; exact Nat.le_refl _
  | blk b => rw [St.sz]; exact Nat.le_refl _
  | if1 b => rw [St.sz]; exact Nat.le_refl _
  | if2 b e =>
    rw [St.sz]
    show (b.sz + ((Sts.cons e Sts.nil).sz + 0)) + 1 ≤ _
    rw [Sts.sz, Sts.sz]; omega
theorem sum_take {α : Type} {g : α → Nat} : ∀ {l : List α} {i : Nat} {x : α}, l[i]? = some x → ((l.take i).map g).sum + g x ≤ (l.map g).sum
  | y :: l, 0, x, h => by
    cases h
    rw [List.take_zero, List.map_cons, List.sum_cons]
    show 0 + g _ ≤ _
    omega
  | y :: l, i + 1, x, h => by
    have := sum_take (g := g) (l := l) (i := i) (x := x) (by simpa using h)
    rw [List.take_succ_cons, List.map_cons, List.map_cons, List.sum_cons, List.sum_cons]
    omega
/-- room for what is to come -/
noncomputable def Room (n : Nat) (s : CSt) (os : List Value) : Prop := s.told.length + n ≤ 1000 ∧ s.used.length + n ≤ 1000 ∧ os.length + n ≤ 1000
theorem Room.after {n m k : Nat} {s s' : CSt} {os : List Value} (r : Room n s os) (g : Grows m s s') (h : m + k ≤ n) : Room k s' os := by
  obtain ⟨a, b, c⟩ := r
  obtain ⟨d, e⟩ := g
  exact ⟨by omega, by omega, by omega⟩
theorem Room.less {n k : Nat} {s : CSt} {os : List Value} (r : Room n s os) (h : k ≤ n) : Room k s os := r.after (.refl 0 s) (by omega)

noncomputable def AllAt (w : World) (mean : ExcName → Option Value) (mg mb : Str → Option Value) (b : Sts) : Prop :=
  ∀ (c td ud op k : Addr) (n kk : Nat) (vs os : List Value) (o : Ops) (rest : List (Addr × Obj)) (s₀ : CSt) (o1 o2 : Obj), ChkIn w c td ud op os o rest → (k, tupO vs n) ∈ rest → StsIn rest vs b → Keys w o1 s₀.told → Keys w o2 s₀.used → Room b.sz s₀ os →
    CallM w mean mg mb (3 * b.sz + 15) 116 [.ref c, .ref k] (mutL td ud op o1 o2 os kk) rest (MutPost w td ud op os (chks b o s₀)) (chks b o s₀ = none)
noncomputable def StAt (w : World) (mean : ExcName → Option Value) (mg mb : Str → Option Value) (st : St) : Prop :=
  ∀ (c td ud op : Addr) (kk : Nat) (v : Value) (os : List Value) (o : Ops) (rest : List (Addr × Obj)) (s₀ : CSt) (o1 o2 : Obj), ChkIn w c td ud op os o rest → StIn rest v st → Keys w o1 s₀.told → Keys w o2 s₀.used → Room st.sz s₀ os →
    CallM w mean mg mb (3 * st.sz + 14) 123 [.ref c, v] (mutL td ud op o1 o2 os kk) rest (MutPost w td ud op os (chk1 st o s₀)) (chk1 st o s₀ = none)
theorem CallM.use {w : World} {mean : ExcName → Option Value} {mg mb : Str → Option Value} {need : Nat} {f : Addr} {vs : List Value} {pre rest : List (Addr × Obj)} {Post : Value → List (Addr × Obj) → Prop} {Xc : Prop}
    (C : CallM w mean mg mb need f vs pre rest Post Xc) {dp un : Nat} {gd : Option (List Code)} {cn : Str} {cs : Scope} {a : Addr} {ccd : Value} {cl : List (Str × Addr)} {outer : List Env} {A₀ : Around} {base h₀ : Heap} {L : Addr} {m : Str → Option Value} {sH : Heap} {sG : Array GenState} {sD : Drawn} {sT : Nat} {sO : OsState} {Q E : Value → Shared → Prop}
    (B : Below A₀ base outer h₀) (F : Fr h₀ L sH m) (X : (hd.heap_1 w.params).In h₀) (N : News h₀ L sH (pre ++ rest)) (T : Top hd.view_1 lo mean mg mb h₀) (hk : cs.kind = .function) (hd : dp + need < recursionLimit) (hu : un + 8 * need < cLine)
    (ret : ∀ r nx h' tk', Fr h₀ L h' m → News h₀ L h' (nx ++ rest) → Post r nx → Q r { heap := h', gens := sG, drawn := sD, toks := tk', os := sO })
    (exc : Xc → ∀ e g₂ h' tk', RaisedN base (envX cn cs L a ccd cl :: outer) e (.ref 45) rest h' → Fr h₀ L g₂ m → g₂.UpToSlots h' → E (.ref e) { heap := h', gens := sG, drawn := sD, toks := tk', os := sO }) :
    wpAny (model PySem.Challenge.rw_pf0071_01.prog w) (ktrTop dp un gd cn cs L a ccd cl outer) (call (.ref f) vs) Q E { heap := sH, gens := sG, drawn := sD, toks := sT, os := sO } := C _ _ _ _ _ _ _ _ _ _ _ _ _ _ _ _ _ _ _ _ _ B F X N T hk hd hu ret exc
theorem ChkIn.own {w : World} {c td ud op : Addr} {os : List Value} {o : Ops} {rest own : List (Addr × Obj)} (C : ChkIn w c td ud op os o rest) (h : ∀ p ∈ own, p.1 ≠ op ∧ p.1 ≠ ud ∧ p.1 ≠ td) : ChkIn w c td ud op os o (own ++ rest) := by
  obtain ⟨dx, t1, t2, t3, n, h1, h2⟩ := C.inst
  exact ⟨⟨dx, t1, t2, t3, n, sub_left _ h1, sub_left _ h2⟩, C.opens.mono sub_left, fun p hp => (List.mem_append.mp hp).elim (h p) (C.apart p), C.ne, C.low⟩
end
section
set_option tactic.hygienic false
theorem ln40 : True := by
  k_with_none
  (k_with "room" => first | exact roomE (by assumption) | exact roomD (by assumption) (by first | decide | omega) | ((try simp only [depth_mark, depth_under_make, depth_under_kw, depth_in1, depth_deeper, depth_caller]); (try dsimp only [ktrTop]); omega))
  (k_with "mem" => first | exact List.mem_cons_self | (refine List.mem_cons_of_mem _ ?_; first | ktr_member | k_mem))
  (k_with "enter" => (refine' code_def (by first | (k_asm) | fail "no") (by first | (k_asm) | fail "no") (by first | (k_asm) | fail "no") (by first | (k_asm) | fail "no") (by first | (k_asm) | fail "no") (by first | (exact rfl) | fail "no") (by first | (exact rfl) | fail "no") (by first | (first | exact rfl | assumption) | fail "no") (by first | (k_is) | fail "no") (by first | (k_is) | fail "no") (by first | (k_room) | fail "no") (by first | (first | exact BindsTo.of_eq rfl | exact binds_K (by k_in) rfl (by k_is) rfl rfl rfl) | fail "no") (by first | (exact locs rfl) | fail "no") ?_ (by first | (exact rfl) | fail "no") (by first | (exact rfl) | fail "no") (by first | (exact rfl) | fail "no") (by first | (decide) | fail "no"); k_whole; intro g' L' h' FG' F' N' B' X' T'; (try dsimp only); (try k_fold); (try (refine (let en9 := _; let ar9 := Around.deeper _ en9; (?_ : wpAny _ ar9 (execs _ en9) _ _ _))))))
  (k_with "exec For Name Name cons nil" => (k_here; (rename Fr _ _ _ _ => lF'); (with_unfolding_all refine' For_invVF lF' (by first | (exact rfl) | fail "no") (by first | (exact rfl) | fail "no") ?_; k_whole)))
  (k_with "exec For Name Call cons nil" => (k_here; (rename Fr _ _ _ _ => lF'); (with_unfolding_all refine' For_invVF lF' (by first | (exact rfl) | fail "no") (by first | (exact rfl) | fail "no") ?_; k_whole)))
  (k_with "pyIter ref" => (refine Held.out ?_))
  (k_with "subscriptTail" => (k_here; (with_reducible show wpAny _ _ (subscriptTail _ _ (Value.ref _) (Value.int 0 _)) _ _ _); k_dflt (refine' item0 (by first | (exact News.isTup (by k_asm) (by k_mem)) | fail "no") ?_ (by first | (with_unfolding_all rfl) | fail "no"); k_whole)))
  (k_with "compareOp NotIn str ref" => (k_here; (with_reducible show wpAny _ _ (compareOp CmpOp.NotIn (Value.str _ _) (Value.ref _)) _ _ _); (with_unfolding_all refine' notin_tuple_strs (by first | ((refine' tupK (by first | (k_in) | fail "no") (by first | (k_dflt k_is) | fail "no"))) | fail "no") (by first | (repeat constructor) | fail "no") ?_; k_whole)))
  (k_with "ite" => (refine ite_no (by first | ((simp only [beq_eq_false_iff_ne, ne_eq]; assumption)) | fail "no") ?_))
  (k_with "TurnPost" => (dsimp only [TurnPost]))
  trivial

theorem ln41 : True := by
  (k_with "call ref" => (k_here; (with_reducible show wpAny _ _ (call (Value.ref 123) _) _ _ _); refine Held.out ?_))
  trivial

theorem mut_mem {own rest : List (Addr × Obj)} {a b c p : Addr × Obj} (h : p ∈ rest) : p ∈ own ++ ([a, b, c] ++ rest) := sub_left _ (sub_left _ h)
theorem perm_in {own rest m : List (Addr × Obj)} : ∀ p ∈ m ++ (own ++ rest), p ∈ own ++ (m ++ rest) := fun p hp => by
  simp only [List.mem_append] at hp ⊢
  rcases hp with h | h | h <;> simp [h]
theorem perm_out {own rest m : List (Addr × Obj)} : ∀ p ∈ own ++ (m ++ rest), p ∈ m ++ (own ++ rest) := fun p hp => by
  simp only [List.mem_append] at hp ⊢
  rcases hp with h | h | h <;> simp [h]
theorem off_mut {own rest : List (Addr × Obj)} {td ud op : Addr} {o1 o2 : Obj} {os : List Value} {k : Nat} (h : OwnOff own ((mutL td ud op o1 o2 os k ++ rest).map (·.1))) : ∀ p ∈ own, p.1 ≠ op ∧ p.1 ≠ ud ∧ p.1 ≠ td := fun p hp =>
  ⟨h p hp _ (.head _), h p hp _ (.tail _ (.head _)), h p hp _ (.tail _ (.tail _ (.head _)))⟩
theorem off_same {own rest : List (Addr × Obj)} {td ud op : Addr} {o1 o2 o1' o2' : Obj} {os : List Value} {k k' : Nat} (h : OwnOff own ((mutL td ud op o1 o2 os k ++ rest).map (·.1))) : OwnOff own ((mutL td ud op o1' o2' os k' ++ rest).map (·.1)) := h
section
variable {w : World} {mean : ExcName → Option Value} {mg mb : Str → Option Value}
set_option maxRecDepth 100000 in
set_option maxHeartbeats 8000000 in
theorem all_step (b : Sts) (IH : ∀ st : St, st.sz ≤ b.sz → StAt w mean mg mb st) : AllAt w mean mg mb b := by
  intro c td ud op k n kk vs os o rest s₀ o1 o2 CH hm hs K1 K2 HR
  intro dp un gd cn cs a ccd cl outer A₀ base h₀ L m sH sG sD sT sO Q E B F X N T hk hdp hun ret exc
  refine wpAny_call ?_
  k_dflt ktr_enter
  k_steps
  rename Fr _ _ _ _ => F9
  rename News _ _ _ _ => N9
  refine Held.intro ?_
  try k_fold
  refine (iter_tup ["statement"] (fun i nx => ∃ s₁ o1' o2' k', foldO (fun st s => chk1 st o s) (b.toList.take i) s₀ = some s₁ ∧ nx = mutL td ud op o1' o2' os k' ++ rest ∧ Keys w o1' s₁.told ∧ Keys w o2' s₁.used) (by exact rfl) (fun i nx h => by obtain ⟨_, _, _, _, _, rfl, _⟩ := h; exact sub_left _ hm) F9 N9 ⟨s₀, o1, o2, kk, rfl, rfl, K1, K2⟩ ?_ ?_)
  · intro i v u2 nx h2 tk2 own hv hP9 hoff F2 N2
    try k_fold
    obtain ⟨s₁, o1', o2', k', hf, rfl, K1', K2'⟩ := hP9
    obtain ⟨st, hst, hS⟩ := hs.get hv
    have hsz := sz_toList (List.mem_of_getElem? hst)
    have hg : Grows ((b.toList.take i).map St.sz).sum s₀ s₁ := foldO_grows (fun x s s' h => chk1_grows h) hf
    have hsum := sum_take (g := St.sz) hst
    rw [sum_toList] at hsum
    have HR' : Room st.sz s₁ os := HR.after hg hsum
    obtain ⟨dx, t1, t2, t3, nd, hc, hdx⟩ := CH.inst
    have hc' : (c, instObj 138 dx) ∈ own ++ (mutL td ud op o1' o2' os k' ++ rest) := mut_mem hc
    have hdx' : (dx, chkD w td ud op t1 t2 t3 nd) ∈ own ++ (mutL td ud op o1' o2' os k' ++ rest) := mut_mem hdx
    clear F9 N9
    try k_fold
    k_steps
    rename Fr _ _ _ _ => F8
    rename News _ _ _ _ => N8
    refine Held.intro ?_
    try k_fold
    refine (CallM.use (IH st hsz c td ud op k' v os o (own ++ rest) s₁ o1' o2' (CH.own (off_mut hoff)) (StIn.mono sub_left hS) K1' K2' HR') (by k_asm) F8 (by k_asm) (news_sub N8 perm_in) (by k_asm) (by exact rfl) (by k_room) (by first | exact roomU (by assumption) (by first | decide | omega) | exact roomV (by assumption) (by first | decide | omega) | ((try simp only [units_in1, units_deeper, Around.mark_units, units_caller]); (try dsimp only [ktrTop]); omega)) ?_ ?_)
    · intro r nx h9 tk9 F9 N9 hP9
      try k_fold
      obtain ⟨s', o1'', o2'', k'', e1, rfl, K1'', K2'', rfl⟩ := hP9
      clear F8 N8
      try dsimp only
      try k_fold
      k_steps
      exact ⟨h9, _, _, mutL td ud op o1'' o2'' os k'' ++ rest, rfl, by assumption, news_sub (by assumption) perm_out, off_same hoff, Same.put (by decide) (Same.lost (by decide) Same.refl), s', o1'', o2'', k'', (foldO_take hf hst).trans e1, rfl, K1'', K2''⟩
    · intro hx e g₂ h9 tk9 R FR U
      try dsimp only
      refine leave_onX rfl rfl FR R U fun h'' R' U' => ?_
      try dsimp only
      exact exc (by rw [chks_fold]; exact foldO_none (i := i + 1) ((foldO_take hf hst).trans hx)) _ _ _ _ (raised_sub R' sub_left) (by assumption) U'
  · intro u2 nx h2 tk2 hP9 F2 N2
    try k_fold
    obtain ⟨s₁, o1', o2', k', hf, rfl, K1', K2'⟩ := hP9
    clear F9 N9
    try k_fold
    k_steps
    exact ret _ (mutL td ud op o1' o2' os k') _ _ (by assumption) (by assumption) ⟨s₁, o1', o2', k', by rw [chks_fold]; rw [hs.length, List.take_length] at hf; exact hf, rfl, K1', K2', rfl⟩
end
end
section
set_option tactic.hygienic false
theorem ln42 : True := by
  k_with_none
  (k_with "room" => first | exact roomE (by assumption) | exact roomD (by assumption) (by first | decide | omega) | ((try simp only [depth_mark, depth_under_make, depth_under_kw, depth_in1, depth_deeper, depth_caller]); (try dsimp only [ktrTop]); omega))
  (k_with "mem" => first | exact List.mem_cons_self | (refine List.mem_cons_of_mem _ ?_; first | ktr_member | k_mem))
  (k_with "enter" => (refine' code_def (by first | (k_asm) | fail "no") (by first | (k_asm) | fail "no") (by first | (k_asm) | fail "no") (by first | (k_asm) | fail "no") (by first | (k_asm) | fail "no") (by first | (exact rfl) | fail "no") (by first | (exact rfl) | fail "no") (by first | (first | exact rfl | assumption) | fail "no") (by first | (k_is) | fail "no") (by first | (k_is) | fail "no") (by first | (k_room) | fail "no") (by first | (first | exact BindsTo.of_eq rfl | exact binds_K (by k_in) rfl (by k_is) rfl rfl rfl) | fail "no") (by first | (exact locs rfl) | fail "no") ?_ (by first | (exact rfl) | fail "no") (by first | (exact rfl) | fail "no") (by first | (exact rfl) | fail "no") (by first | (decide) | fail "no"); k_whole; intro g' L' h' FG' F' N' B' X' T'; (try dsimp only); (try k_fold); (try (refine (let en9 := _; let ar9 := Around.deeper _ en9; (?_ : wpAny _ ar9 (execs _ en9) _ _ _))))))
  (k_with "exec For Name Name cons nil" => (k_here; (rename Fr _ _ _ _ => lF'); (with_unfolding_all refine' For_invVF lF' (by first | (exact rfl) | fail "no") (by first | (exact rfl) | fail "no") ?_; k_whole)))
  (k_with "exec For Name Call cons nil" => (k_here; (rename Fr _ _ _ _ => lF'); (with_unfolding_all refine' For_invVF lF' (by first | (exact rfl) | fail "no") (by first | (exact rfl) | fail "no") ?_; k_whole)))
  (k_with "pyIter ref" => (refine Held.out ?_))
  (k_with "subscriptTail" => (k_here; (with_reducible show wpAny _ _ (subscriptTail _ _ (Value.ref _) (Value.int 0 _)) _ _ _); k_dflt (refine' item0 (by first | (exact News.isTup (by k_asm) (by k_mem)) | fail "no") ?_ (by first | (with_unfolding_all rfl) | fail "no"); k_whole)))
  (k_with "compareOp NotIn str ref" => (k_here; (with_reducible show wpAny _ _ (compareOp CmpOp.NotIn (Value.str _ _) (Value.ref _)) _ _ _); (with_unfolding_all refine' notin_tuple_strs (by first | ((refine' tupK (by first | (k_in) | fail "no") (by first | (k_dflt k_is) | fail "no"))) | fail "no") (by first | (repeat constructor) | fail "no") ?_; k_whole)))
  (k_with "ite" => (refine ite_no (by first | ((simp only [beq_eq_false_iff_ne, ne_eq]; assumption)) | fail "no") ?_))
  (k_with "TurnPost" => (dsimp only [TurnPost]))
  trivial

theorem ln43 : True := by
  (k_with "fold" => (first | (fail_if_success k_fold) | (refine (let qk : _ → Shared → Prop := _; (?_ : wpAny _ _ _ qk _ _)))))
  (k_with "call ref" => (k_here; (with_reducible show wpAny _ _ (call (Value.ref 61) _) _ _ _); refine Held.out ?_))
  (k_with "call ref" => (k_here; (with_reducible show wpAny _ _ (call (Value.ref 116) _) _ _ _); refine Held.out ?_))
  (k_with "call ref" => (k_here; (with_reducible show wpAny _ _ (call (Value.ref 128) _) _ _ _); refine Held.out ?_))
  (k_with "ite" => (refine ite_no (by first | (assumption) | fail "no") ?_))
  (k_with "ite" => (refine ite_yes (by first | (assumption) | fail "no") ?_))
  trivial

noncomputable abbrev TupSub (news news' : List (Addr × Obj)) : Prop := ∀ a vs n, (a, tupO vs n) ∈ news → (a, tupO vs n) ∈ news'
theorem ExIn.monoT {news news' : List (Addr × Obj)} (hs : TupSub news news') {v : Value} {e : Ex} (h : ExIn news v e) : ExIn news' v e := by
  cases h with
  | nm h => exact .nm (hs _ _ _ h)
  | sel h h' => exact .sel (hs _ _ _ h) (hs _ _ _ h')
  | cn h h' => exact .cn (hs _ _ _ h) (hs _ _ _ h')
  | gx h => exact .gx (hs _ _ _ h)
theorem StIn.monoT {news news' : List (Addr × Obj)} (hs : TupSub news news') {v : Value} {s : St} (h : StIn news v s) : StIn news' v s :=
  StIn.rec
    (motive_1 := fun v s _ => StIn news' v s) (motive_2 := fun a b _ => BlkIn news' a b) (motive_3 := fun vs b _ => StsIn news' vs b) (motive_4 := fun vs c _ => CsIn news' vs c)
    (fun h => .ret (hs _ _ _ h)) (fun h => .fall (hs _ _ _ h)) (fun h e => .ex (hs _ _ _ h) (e.monoT hs)) (fun h l => .brk (hs _ _ _ h) l) (fun h l => .cont (hs _ _ _ h) l)
    (fun h l c _ b => .for_ (hs _ _ _ h) l c b) (fun h l _ b => .rng (hs _ _ _ h) l b) (fun h l k z _ c => .sw (hs _ _ _ h) l (hs _ _ _ k) z c) (fun h l k z _ c => .cho (hs _ _ _ h) l (hs _ _ _ k) z c)
    (fun _ b => .blk b) (fun h _ b => .if1 (hs _ _ _ h) b) (fun h _ _ b s => .if2 (hs _ _ _ h) b s) (fun h k _ b => .mk (hs _ _ _ h) (hs _ _ _ k) b) .nil (fun _ _ h r => .cons h r) .nil
    (fun h t k _ _ b r => .cons (hs _ _ _ h) t (hs _ _ _ k) b r) h
theorem BlkIn.monoT {news news' : List (Addr × Obj)} (hs : TupSub news news') {a : Addr} {b : Sts} (h : BlkIn news a b) : BlkIn news' a b :=
  BlkIn.rec
    (motive_1 := fun v s _ => StIn news' v s) (motive_2 := fun a b _ => BlkIn news' a b) (motive_3 := fun vs b _ => StsIn news' vs b) (motive_4 := fun vs c _ => CsIn news' vs c)
    (fun h => .ret (hs _ _ _ h)) (fun h => .fall (hs _ _ _ h)) (fun h e => .ex (hs _ _ _ h) (e.monoT hs)) (fun h l => .brk (hs _ _ _ h) l) (fun h l => .cont (hs _ _ _ h) l)
    (fun h l c _ b => .for_ (hs _ _ _ h) l c b) (fun h l _ b => .rng (hs _ _ _ h) l b) (fun h l k z _ c => .sw (hs _ _ _ h) l (hs _ _ _ k) z c) (fun h l k z _ c => .cho (hs _ _ _ h) l (hs _ _ _ k) z c)
    (fun _ b => .blk b) (fun h _ b => .if1 (hs _ _ _ h) b) (fun h _ _ b s => .if2 (hs _ _ _ h) b s) (fun h k _ b => .mk (hs _ _ _ h) (hs _ _ _ k) b) .nil (fun _ _ h r => .cons h r) .nil
    (fun h t k _ _ b r => .cons (hs _ _ _ h) t (hs _ _ _ k) b r) h
theorem StsIn.monoT {news news' : List (Addr × Obj)} (hs : TupSub news news') {vs : List Value} {b : Sts} (h : StsIn news vs b) : StsIn news' vs b :=
  StsIn.rec
    (motive_1 := fun v s _ => StIn news' v s) (motive_2 := fun a b _ => BlkIn news' a b) (motive_3 := fun vs b _ => StsIn news' vs b) (motive_4 := fun vs c _ => CsIn news' vs c)
    (fun h => .ret (hs _ _ _ h)) (fun h => .fall (hs _ _ _ h)) (fun h e => .ex (hs _ _ _ h) (e.monoT hs)) (fun h l => .brk (hs _ _ _ h) l) (fun h l => .cont (hs _ _ _ h) l)
    (fun h l c _ b => .for_ (hs _ _ _ h) l c b) (fun h l _ b => .rng (hs _ _ _ h) l b) (fun h l k z _ c => .sw (hs _ _ _ h) l (hs _ _ _ k) z c) (fun h l k z _ c => .cho (hs _ _ _ h) l (hs _ _ _ k) z c)
    (fun _ b => .blk b) (fun h _ b => .if1 (hs _ _ _ h) b) (fun h _ _ b s => .if2 (hs _ _ _ h) b s) (fun h k _ b => .mk (hs _ _ _ h) (hs _ _ _ k) b) .nil (fun _ _ h r => .cons h r) .nil
    (fun h t k _ _ b r => .cons (hs _ _ _ h) t (hs _ _ _ k) b r) h
theorem CsIn.monoT {news news' : List (Addr × Obj)} (hs : TupSub news news') {vs : List Value} {c : Cs} (h : CsIn news vs c) : CsIn news' vs c :=
  CsIn.rec
    (motive_1 := fun v s _ => StIn news' v s) (motive_2 := fun a b _ => BlkIn news' a b) (motive_3 := fun vs b _ => StsIn news' vs b) (motive_4 := fun vs c _ => CsIn news' vs c)
    (fun h => .ret (hs _ _ _ h)) (fun h => .fall (hs _ _ _ h)) (fun h e => .ex (hs _ _ _ h) (e.monoT hs)) (fun h l => .brk (hs _ _ _ h) l) (fun h l => .cont (hs _ _ _ h) l)
    (fun h l c _ b => .for_ (hs _ _ _ h) l c b) (fun h l _ b => .rng (hs _ _ _ h) l b) (fun h l k z _ c => .sw (hs _ _ _ h) l (hs _ _ _ k) z c) (fun h l k z _ c => .cho (hs _ _ _ h) l (hs _ _ _ k) z c)
    (fun _ b => .blk b) (fun h _ b => .if1 (hs _ _ _ h) b) (fun h _ _ b s => .if2 (hs _ _ _ h) b s) (fun h k _ b => .mk (hs _ _ _ h) (hs _ _ _ k) b) .nil (fun _ _ h r => .cons h r) .nil
    (fun h t k _ _ b r => .cons (hs _ _ _ h) t (hs _ _ _ k) b r) h
theorem BodyIn.monoT {news news' : List (Addr × Obj)} (hs : TupSub news news') {v : Value} {b : Sts} : BodyIn news v b → BodyIn news' v b
  | .mk h k => .mk (hs _ _ _ h) (k.monoT hs)
theorem BodiesIn.monoT {news news' : List (Addr × Obj)} (hs : TupSub news news') : ∀ {vs : List Value} {bs : List Sts}, BodiesIn news vs bs → BodiesIn news' vs bs
  | _, _, .nil => .nil
  | _, _, .cons h r => .cons (h.monoT hs) (r.monoT hs)
theorem Keys.not_tup {w : World} {o : Obj} {ks : List Str} (K : Keys w o ks) (vs : List Value) (n : Nat) : o ≠ tupO vs n := fun e => by
  obtain ⟨kvs, D, ⟨es, ep, _, hd, _⟩, _⟩ := K
  rw [e] at hd
  cases hd
theorem no_mut {w : World} {td ud op : Addr} {o1 o2 : Obj} {k1 k2 : List Str} {os : List Value} {k : Nat} {tl rest : List (Addr × Obj)} (K1 : Keys w o1 k1) (K2 : Keys w o2 k2) : TupSub (tl ++ (mutL td ud op o1 o2 os k ++ rest)) (tl ++ rest) := fun a vs n h => by
  rcases List.mem_append.mp h with h | h
  · exact List.mem_append.mpr (.inl h)
  · refine List.mem_append.mpr (.inr ?_)
    rcases List.mem_append.mp h with h | h
    · simp only [mutL, List.mem_cons, List.not_mem_nil, or_false, Prod.mk.injEq] at h
      rcases h with ⟨_, h⟩ | ⟨_, h⟩ | ⟨_, h⟩
      · exact absurd (Value.type.inj (congrArg Obj.cls h)) (by decide)
      · exact absurd h.symm (K2.not_tup vs n)
      · exact absurd h.symm (K1.not_tup vs n)
    · exact h
theorem plain_view {news : List (Addr × Obj)} {v : Value} {st : St} (h : StIn news v st) (hl : st.left = false) :
    (∃ a n kd brk t i u lv l, v = .ref a ∧ (kd = ("break" : Str) ∧ brk = true ∨ kd = ("continue" : Str) ∧ brk = false) ∧ (a, tupO [.str kd t, .int i u, lv] n) ∈ news ∧ LabIn lv l ∧ (∀ o s, st.leads o s = lead brk l o s) ∧ st.inn = []) ∨
    ∃ a n k t r, v = .ref a ∧ (a, tupO (.str k t :: r) n) ∈ news ∧ ([Str.ofString "break", Str.ofString "continue"].any fun x => x == k) = false ∧ ([Str.ofString "for", Str.ofString "range", Str.ofString "switch", Str.ofString "typeswitch", Str.ofString "choose"].any fun x => x == k) = false ∧ ∀ o s, st.leads o s = some s := by
  cases h with
  | brk h hL => exact .inl ⟨_, _, _, true, _, _, _, _, _, rfl, .inl ⟨rfl, rfl⟩, h, hL, fun _ _ => rfl, rfl⟩
  | cont h hL => exact .inl ⟨_, _, _, false, _, _, _, _, _, rfl, .inr ⟨rfl, rfl⟩, h, hL, fun _ _ => rfl, rfl⟩
  | for_ | rng | sw | cho => cases hl
  | blk h => obtain ⟨h, _, _⟩ := h; exact .inr ⟨_, _, _, _, _, rfl, h, by decide, by decide, fun _ _ => rfl⟩
  | _ h => exact .inr ⟨_, _, _, _, _, rfl, h, by decide, by decide, fun _ _ => rfl⟩
section
variable {w : World} {mean : ExcName → Option Value} {mg mb : Str → Option Value}
set_option maxRecDepth 100000 in
set_option maxHeartbeats 8000000 in
theorem st_plain (st : St) (hl : st.left = false) (IH : ∀ b : Sts, b.sz < st.sz → AllAt w mean mg mb b) : StAt w mean mg mb st := by
  intro c td ud op kk v os o rest s₀ o1 o2 CH hS K1 K2 HR
  intro dp un gd cn cs a ccd cl outer A₀ base h₀ L m sH sG sD sT sO Q E B F X N T hk hdp hun ret exc
  have R : StIn (mutL td ud op o1 o2 os kk ++ rest) v st := StIn.mono sub_left hS
  obtain ⟨dx, t1, t2, t3, nd, hc, hdx⟩ := CH.inst
  rcases plain_view hS hl with ⟨a₁, n, kd, brk, t, i, u, lv, l, rfl, hkd, hm, hlv, hle, hnn⟩ | ⟨a₁, n, k, t, r, rfl, hm, hk1, hk2, hle⟩
  · have hkd' := hkd
    rcases hkd with ⟨rfl, hb⟩ | ⟨rfl, hb⟩
    all_goals (
      refine wpAny_call ?_
      k_dflt ktr_enter
      k_steps
      rename Fr _ _ _ _ => F8
      rename News _ _ _ _ => N8
      have hz1 : 1 ≤ st.sz := by have := sum_inn st; omega
      refine Held.intro ?_
      try k_extra "fold"
      refine (CallM.use (lead_spec hkd' hm hlv CH K1 K2 (by have := HR.2.2; omega) (by have := HR.2.1; omega)) (by k_asm) F8 (by k_asm) (news_sub N8 fun p hp => by first | exact hp | exact List.mem_cons_of_mem _ hp) (by k_asm) (by exact rfl) (by k_room) (by first | exact roomU (by assumption) (by first | decide | omega) | exact roomV (by assumption) (by first | decide | omega) | ((try simp only [units_in1, units_deeper, Around.mark_units, units_caller]); (try dsimp only [ktrTop]); omega)) ?_ ?_)
      rotate_left
      · intro hx e g₂ h9 tk9 R FR U
        try dsimp only
        refine leave_onX rfl rfl FR R U fun h'' R' U' => ?_
        try dsimp only
        exact exc (by rw [chk1_inn hl, hle, hx]; rfl) _ _ _ _ R' (by assumption) U'
      intro r nx h9 tk9 F9 N9 hP9
      try k_extra "fold"
      obtain ⟨s₁, o1', o2', k', e1, rfl, K1', K2', rfl⟩ := hP9
      clear F8 N8 R
      have R : StIn (mutL td ud op o1' o2' os k' ++ rest) _ st := StIn.mono sub_left hS
      try dsimp only
      try k_extra "fold"
      k_steps
      rename Fr _ _ _ _ => F8
      rename News _ _ _ _ => N8
      refine Held.intro ?_
      try k_extra "fold"
      refine (Call.use (inner_lists_spec R) (by k_asm) F8 (by k_asm) (news_sub N8 fun p hp => by first | exact hp | exact List.mem_cons_of_mem _ hp) (by k_asm) (by exact rfl) (by k_room) (by first | exact roomU (by assumption) (by first | decide | omega) | exact roomV (by assumption) (by first | decide | omega) | ((try simp only [units_in1, units_deeper, Around.mark_units, units_caller]); (try dsimp only [ktrTop]); omega)) ?_)
      rintro r9 tl9 h9 tk9 F9 N9 l9 ⟨li9, vs9, ni9, rfl, mi9, hB9⟩
      clear F8 N8
      try dsimp only
      have N7 := news_sub N9 (perm_in (m := mutL td ud op o1' o2' os k'))
      clear l9 N9
      try k_extra "fold"
      k_steps
      rename Fr _ _ _ _ => F8
      refine Held.intro ?_
      try k_extra "fold"
      refine (iter_list ["inner"] (fun i nx => nx = mutL td ud op o1' o2' os k' ++ (tl9 ++ rest)) (by exact rfl) (fun i nx h => by rw [h]; exact sub_left _ (List.mem_append.mpr (.inl mi9))) F8 N7 rfl ?_ ?_)
      · intro i2 v2 u2 nx2 h2 tk2 own2 hv2 _ _ _ _
        obtain ⟨b', hb', _⟩ := hB9.get hv2
        rw [hnn] at hb'
        cases hb'
      · rintro u2 nx2 h2 tk2 rfl F2 N2
        clear F8 N7
        try k_extra "fold"
        k_steps
        exact ret _ (mutL td ud op o1' o2' os k') _ _ (by assumption) (news_sub (by assumption) fun p hp => (List.mem_append.mp hp).elim (fun q => List.mem_append.mpr (.inl q)) fun q => sub_left _ (sub_left _ q)) ⟨s₁, o1', o2', k', by rw [chk1_inn hl, hle, e1, hnn]; rfl, rfl, K1', K2', rfl⟩)
  · refine wpAny_call ?_
    k_dflt ktr_enter
    k_steps
    rename Fr _ _ _ _ => F8
    rename News _ _ _ _ => N8
    refine Held.intro ?_
    try k_extra "fold"
    refine (Call.use (inner_lists_spec R) (by k_asm) F8 (by k_asm) (news_sub N8 fun p hp => List.mem_cons_of_mem _ hp) (by k_asm) (by exact rfl) (by k_room) (by first | exact roomU (by assumption) (by first | decide | omega) | exact roomV (by assumption) (by first | decide | omega) | ((try simp only [units_in1, units_deeper, Around.mark_units, units_caller]); (try dsimp only [ktrTop]); omega)) ?_)
    rintro r9 tl9 h9 tk9 F9 N9 l9 ⟨li9, vs9, ni9, rfl, mi9, hB9⟩
    clear F8 N8
    try dsimp only
    have hB8 := BodiesIn.monoT (no_mut K1 K2) hB9
    have CH9 : ChkIn w c td ud op os o (tl9 ++ rest) := CH.own fun p hp => ⟨Nat.ne_of_gt (l9 p hp _ (.head _)), Nat.ne_of_gt (l9 p hp _ (.tail _ (.head _))), Nat.ne_of_gt (l9 p hp _ (.tail _ (.tail _ (.head _))))⟩
    have N7 := news_sub N9 (perm_in (m := mutL td ud op o1 o2 os kk))
    clear l9 N9
    try k_extra "fold"
    k_steps
    rename Fr _ _ _ _ => F8
    refine Held.intro ?_
    try k_extra "fold"
    refine (iter_list ["inner"] (fun i nx => ∃ s₁ o1' o2' k', foldO (fun b s => chks b o s) (st.inn.take i) s₀ = some s₁ ∧ nx = mutL td ud op o1' o2' os k' ++ (tl9 ++ rest) ∧ Keys w o1' s₁.told ∧ Keys w o2' s₁.used) (by exact rfl) (fun i nx h => by obtain ⟨_, _, _, _, _, rfl, _⟩ := h; exact sub_left _ (List.mem_append.mpr (.inl mi9))) F8 N7 ⟨s₀, o1, o2, kk, rfl, rfl, K1, K2⟩ ?_ ?_)
    · intro i2 v2 u2 nx h2 tk2 own hv hP9 hoff F2 N2
      try k_extra "fold"
      obtain ⟨s₁, o1', o2', k', hf, rfl, K1', K2'⟩ := hP9
      obtain ⟨b', hb', hB'⟩ := hB8.get hv
      have hz := sz_inn (List.mem_of_getElem? hb')
      have hg : Grows ((st.inn.take i2).map Sts.sz).sum s₀ s₁ := foldO_grows (fun x s s' h => chks_grows h) hf
      have hsum := sum_take (g := Sts.sz) hb'
      have hsum2 := sum_inn st
      have HR' : Room b'.sz s₁ os := HR.after hg (by omega)
      have hc' : (c, instObj 138 dx) ∈ own ++ (mutL td ud op o1' o2' os k' ++ (tl9 ++ rest)) := mut_mem (sub_left _ hc)
      have hdx' : (dx, chkD w td ud op t1 t2 t3 nd) ∈ own ++ (mutL td ud op o1' o2' os k' ++ (tl9 ++ rest)) := mut_mem (sub_left _ hdx)
      obtain ⟨hm2, hs2⟩ := BodyIn.mono (sub_left (a := own)) hB'
      clear F8 N7
      try k_extra "fold"
      k_steps
      rename Fr _ _ _ _ => F8
      rename News _ _ _ _ => N8
      refine Held.intro ?_
      try k_extra "fold"
      refine (CallM.use (IH b' hz c td ud op _ _ k' _ os o (own ++ (tl9 ++ rest)) s₁ o1' o2' (CH9.own (off_mut hoff)) hm2 hs2 K1' K2' HR') (by k_asm) F8 (by k_asm) (news_sub N8 perm_in) (by k_asm) (by exact rfl) (by k_room) (by first | exact roomU (by assumption) (by first | decide | omega) | exact roomV (by assumption) (by first | decide | omega) | ((try simp only [units_in1, units_deeper, Around.mark_units, units_caller]); (try dsimp only [ktrTop]); omega)) ?_ ?_)
      · intro r nx h9 tk9 F9 N9 hP9
        try k_extra "fold"
        obtain ⟨s', o1'', o2'', k'', e1, rfl, K1'', K2'', rfl⟩ := hP9
        clear F8 N8
        try dsimp only
        try k_extra "fold"
        k_steps
        exact ⟨h9, _, _, mutL td ud op o1'' o2'' os k'' ++ (tl9 ++ rest), rfl, by assumption, news_sub (by assumption) perm_out, off_same hoff, Same.put (by decide) (Same.lost (by decide) Same.refl), s', o1'', o2'', k'', (foldO_take hf hb').trans e1, rfl, K1'', K2''⟩
      · intro hx e g₂ h9 tk9 R FR U
        try dsimp only
        refine leave_onX rfl rfl FR R U fun h'' R' U' => ?_
        try dsimp only
        exact exc (by rw [chk1_inn hl, hle]; exact foldO_none (i := i2 + 1) ((foldO_take hf hb').trans hx)) _ _ _ _ (raised_sub R' fun p hp => sub_left _ (sub_left _ hp)) (by assumption) U'
    · intro u2 nx h2 tk2 hP9 F2 N2
      try k_extra "fold"
      obtain ⟨s₁, o1', o2', k', hf, rfl, K1', K2'⟩ := hP9
      clear F8 N7
      try k_extra "fold"
      k_steps
      exact ret _ (mutL td ud op o1' o2' os k') _ _ (by assumption) (news_sub (by assumption) fun p hp => (List.mem_append.mp hp).elim (fun q => List.mem_append.mpr (.inl q)) fun q => sub_left _ (sub_left _ q)) ⟨s₁, o1', o2', k', by rw [chk1_inn hl, hle]; rw [hB8.length, List.take_length] at hf; exact hf, rfl, K1', K2', rfl⟩
end
end
section
theorem ln44 : True := by
  k_with_none
  (k_with "room" => first | exact roomE (by assumption) | exact roomD (by assumption) (by first | decide | omega) | ((try simp only [depth_mark, depth_under_make, depth_under_kw, depth_in1, depth_deeper, depth_caller]); (try dsimp only [ktrTop]); omega))
  (k_with "mem" => first | exact List.mem_cons_self | (refine List.mem_cons_of_mem _ ?_; first | ktr_member | k_mem))
  (k_with "enter" => (refine' code_def (by first | (k_asm) | fail "no") (by first | (k_asm) | fail "no") (by first | (k_asm) | fail "no") (by first | (k_asm) | fail "no") (by first | (k_asm) | fail "no") (by first | (exact rfl) | fail "no") (by first | (exact rfl) | fail "no") (by first | (first | exact rfl | assumption) | fail "no") (by first | (k_is) | fail "no") (by first | (k_is) | fail "no") (by first | (k_room) | fail "no") (by first | (first | exact BindsTo.of_eq rfl | exact binds_K (by k_in) rfl (by k_is) rfl rfl rfl) | fail "no") (by first | (exact locs rfl) | fail "no") ?_ (by first | (exact rfl) | fail "no") (by first | (exact rfl) | fail "no") (by first | (exact rfl) | fail "no") (by first | (decide) | fail "no"); k_whole; intro g' L' h' FG' F' N' B' X' T'; (try dsimp only); (try k_fold); (try (refine (let en9 := _; let ar9 := Around.deeper _ en9; (?_ : wpAny _ ar9 (execs _ en9) _ _ _))))))
  (k_with "exec For Name Name cons nil" => (k_here; (rename Fr _ _ _ _ => lF'); (with_unfolding_all refine' For_invVF lF' (by first | (exact rfl) | fail "no") (by first | (exact rfl) | fail "no") ?_; k_whole)))
  (k_with "exec For Name Call cons nil" => (k_here; (rename Fr _ _ _ _ => lF'); (with_unfolding_all refine' For_invVF lF' (by first | (exact rfl) | fail "no") (by first | (exact rfl) | fail "no") ?_; k_whole)))
  (k_with "pyIter ref" => (refine Held.out ?_))
  (k_with "subscriptTail" => (k_here; (with_reducible show wpAny _ _ (subscriptTail _ _ (Value.ref _) (Value.int 0 _)) _ _ _); k_dflt (refine' item0 (by first | (exact News.isTup (by k_asm) (by k_mem)) | fail "no") ?_ (by first | (with_unfolding_all rfl) | fail "no"); k_whole)))
  (k_with "compareOp NotIn str ref" => (k_here; (with_reducible show wpAny _ _ (compareOp CmpOp.NotIn (Value.str _ _) (Value.ref _)) _ _ _); (with_unfolding_all refine' notin_tuple_strs (by first | ((refine' tupK (by first | (k_in) | fail "no") (by first | (k_dflt k_is) | fail "no"))) | fail "no") (by first | (repeat constructor) | fail "no") ?_; k_whole)))
  (k_with "ite" => (refine ite_no (by first | ((simp only [beq_eq_false_iff_ne, ne_eq]; assumption)) | fail "no") ?_))
  (k_with "TurnPost" => (dsimp only [TurnPost]))
  trivial

theorem ln45 : True := by
  (k_with "call ref" => (k_here; (with_reducible show wpAny _ _ (call (Value.ref 61) _) _ _ _); refine Held.out ?_))
  (k_with "call ref" => (k_here; (with_reducible show wpAny _ _ (call (Value.ref 116) _) _ _ _); refine Held.out ?_))
  (k_with "call ref" => (k_here; (with_reducible show wpAny _ _ (call (Value.ref 128) _) _ _ _); refine Held.out ?_))
  (k_with "ite" => (refine ite_no (by first | (assumption) | fail "no") ?_))
  (k_with "ite" => (refine ite_yes (by first | (assumption) | fail "no") ?_))
  (k_with "exec Raise some none" => (k_here; k_dflt (refine raise_exec (by exact rfl) ?_)))
  (k_with "call ref" => (k_here; (with_reducible show wpAny _ _ (call (Value.ref 45) _) _ _ _); (try k_fold); k_dflt (refine' Call.go (by first | (k_asm) | fail "no") (by first | (k_asm) | fail "no") (by first | (k_asm) | fail "no") (by first | (k_asm) | fail "no") (by first | (k_asm) | fail "no") (by first | (first | exact rfl | assumption) | fail "no") fault_spec (by first | (k_room) | fail "no") (by first | ((first | exact roomU (by assumption) (by first | decide | omega) | exact roomV (by assumption) (by first | decide | omega) | ((try simp only [units_in1, units_deeper, Around.mark_units, units_caller]); (try dsimp only [ktrTop]); omega))) | fail "no") ?_); intro r9 tl9 h9 tk9 F9 N9 l9 P9; (obtain ⟨e9, eo9, a9, q1, q2, c9, d9⟩ := P9); subst q1; subst q2; (have l8 := l9 _ (List.mem_singleton.mpr rfl)); clear l9; simp only [List.singleton_append] at N9; (try dsimp only at l8); (try k_unfold); (try dsimp only); (try k_fold)))
  (k_with "RaiseFin" => ((rename Fr _ _ _ _ => lF'); (rename News _ _ _ _ => lN'); (rename Frag.In _ _ => lX'); refine ⟨_, _, _, 45, _, rfl, lX'.keeps lF'.keep, (lN' _ (List.Mem.head _)).1, (by assumption), (by assumption), ⟨_, (lX'.keeps lF'.keep) 45 _ (by exact rfl), rfl⟩, (by exact rfl), ?_⟩; (try dsimp only)))
  (k_with "leaving ref" => (k_here; (rename Fr _ _ _ _ => lF'); (rename News _ _ _ _ => lN'); (rename Below _ _ _ _ => lB'); k_dflt (refine leave_newO rfl rfl rfl lB' lF' lN' (by assumption) (by assumption) (by assumption) ?_); intro h' R' U'; (try dsimp only)))
  (k_with "setItem ref str" => (refine Held.out ?_))
  (k_with "call builtin:list.append" => (refine Held.out ?_))
  (k_with "call builtin:list.pop" => (refine Held.out ?_))
  trivial

theorem item1 {prog : Program} {w : World} {A : Around} {E : Value → Shared → Prop} {s : Shared} {value slice : PySem.Expr} {t : Addr} {x y : Value} {r : List Value} {u : Tok} {Q : Value → Shared → Prop} (ht : IsTup s.heap t (x :: y :: r).toArray) (h : Q y s)
    (hs : subscripted slice false (.ref t) (.int 1 u) = operate [.ref t, .int 1 u] (getItem (.ref t) (.int 1 u)) ) :
    wpAny (model prog w) A (subscriptTail value slice (.ref t) (.int 1 u)) Q E s := item_tupleT ht (by decide) (by decide) (j := 1) (by simp [seqIndex?]; omega) rfl h hs
theorem item2 {prog : Program} {w : World} {A : Around} {E : Value → Shared → Prop} {s : Shared} {value slice : PySem.Expr} {t : Addr} {x y z : Value} {r : List Value} {u : Tok} {Q : Value → Shared → Prop} (ht : IsTup s.heap t (x :: y :: z :: r).toArray) (h : Q z s)
    (hs : subscripted slice false (.ref t) (.int 2 u) = operate [.ref t, .int 2 u] (getItem (.ref t) (.int 2 u)) ) :
    wpAny (model prog w) A (subscriptTail value slice (.ref t) (.int 2 u)) Q E s := item_tupleT ht (by decide) (by decide) (j := 2) (by simp [seqIndex?]; omega) rfl h hs
theorem ln46 : True := by
  (k_with "subscriptTail" => (k_here; (with_reducible show wpAny _ _ (subscriptTail _ _ (Value.ref _) (Value.int 1 _)) _ _ _); k_dflt (refine' item1 (by first | (exact News.isTup (by k_asm) (by k_mem)) | fail "no") ?_ (by first | (with_unfolding_all rfl) | fail "no"); k_whole)))
  (k_with "subscriptTail" => (k_here; (with_reducible show wpAny _ _ (subscriptTail _ _ (Value.ref _) (Value.int 2 _)) _ _ _); k_dflt (refine' item2 (by first | (exact News.isTup (by k_asm) (by k_mem)) | fail "no") ?_ (by first | (with_unfolding_all rfl) | fail "no"); k_whole)))
  (k_with "binaryOp Add str str" => (k_here; k_dflt (first | refine add_str ?_ (add_lab (by assumption) (by decide)) | refine add_str ?_ (add_lab2 (by assumption) (by decide) (by decide))); intro t9 tk9; (try dsimp only)))
  trivial

theorem append_T {w : World} {A : Around} {E : Value → Shared → Prop} {s : Shared} {h₀ : Heap} {L td ud op aT : Addr} {m : Str → Option Value} {o1 o2 oT : Obj} {os : List Value} {k : Nat} {rest : List (Addr × Obj)} {Q : Value → Shared → Prop}
    (F : Fr h₀ L s.heap m) (N : News h₀ L s.heap ((aT, oT) :: (mutL td ud op o1 o2 os k ++ rest))) (hne : op ≠ ud ∧ op ≠ td ∧ ud ≠ td) (hap : ∀ p ∈ rest, p.1 ≠ op ∧ p.1 ≠ ud ∧ p.1 ≠ td) (hT : aT ≠ op) (hz : os.length ≤ 1000)
    (h : ∀ h', Fr h₀ L h' m → News h₀ L h' (mutL td ud op o1 o2 (os ++ [.ref aT]) (k + 1) ++ ((aT, oT) :: rest)) → Q .none { s with heap := h' }) : wpAny (model pg w) A (call (.builtin "list.append") [.ref op, .ref aT]) Q E s := by
  have N' : News h₀ L s.heap ((op, listOf os.toArray k) :: ((ud, o2) :: (td, o1) :: (aT, oT) :: rest)) := news_sub N fun p hp => by
    simp only [List.mem_cons, List.mem_append, List.not_mem_nil, or_false] at hp ⊢
    rcases hp with h | h | h | h | h <;> simp [h]
  refine append_K F N' (.head fun p hp => ?_) (fun h' F' N'' => h h' F' ?_) ?_
  · simp only [List.mem_cons] at hp
    rcases hp with rfl | rfl | rfl | hp
    · exact Ne.symm hne.1
    · exact Ne.symm hne.2.1
    · exact hT
    · exact (hap p hp).1
  · rw [List.push_toArray] at N''
    exact N''
  · rw [List.size_toArray, sizeLine_eq]; omega
theorem kl_last_snoc (x : Value) : ∀ l : List Value, kl_last (l ++ [x]) = some (l, x)
  | [] => rfl
  | y :: l => by
    show (match kl_last (l ++ [x]) with | some (p, y') => some (y :: p, y') | none => some ([], y)) = _
    rw [kl_last_snoc x l]
theorem pop_T {w : World} {A : Around} {E : Value → Shared → Prop} {s : Shared} {h₀ : Heap} {L td ud op : Addr} {m : Str → Option Value} {o1 o2 : Obj} {os : List Value} {x : Value} {k : Nat} {rest : List (Addr × Obj)} {Q : Value → Shared → Prop}
    (F : Fr h₀ L s.heap m) (N : News h₀ L s.heap (mutL td ud op o1 o2 (os ++ [x]) k ++ rest)) (hne : op ≠ ud ∧ op ≠ td ∧ ud ≠ td) (hap : ∀ p ∈ rest, p.1 ≠ op ∧ p.1 ≠ ud ∧ p.1 ≠ td) (hz : os.length ≤ 1000)
    (h : ∀ h', Fr h₀ L h' m → News h₀ L h' (mutL td ud op o1 o2 os (k + 1) ++ rest) → Q x { s with heap := h' }) : wpAny (model pg w) A (call (.builtin "list.pop") [.ref op]) Q E s := by
  refine kl_pop (its := (os ++ [x]).toArray) (news' := mutL td ud op o1 o2 os (k + 1) ++ rest) F N (kl_last_snoc x os) (.head fun p hp => ?_) ?_ fun h' F' N' => h h' F' N'
  · simp only [List.mem_cons, List.append_eq, List.nil_append, List.cons_append] at hp
    rcases hp with rfl | rfl | hp
    · exact Ne.symm hne.1
    · exact Ne.symm hne.2.1
    · exact (hap p hp).1
  · rw [sizeLine_eq]; simp only [List.length_append, List.length_singleton]; omega
theorem setItem_T {w : World} {A : Around} {E : Value → Shared → Prop} {s : Shared} {h₀ : Heap} {L td ud op : Addr} {m : Str → Option Value} {o1 o2 : Obj} {os : List Value} {k : Nat} {ks : List Str} {x : Str} {t u : Tok} {i : Int} {rest : List (Addr × Obj)} {Q : Unit → Shared → Prop}
    (F : Fr h₀ L s.heap m) (N : News h₀ L s.heap (mutL td ud op o1 o2 os k ++ rest)) (hne : op ≠ ud ∧ op ≠ td ∧ ud ≠ td) (hap : ∀ p ∈ rest, p.1 ≠ op ∧ p.1 ≠ ud ∧ p.1 ≠ td) (K : Keys w o1 ks) (hx : x.length ≤ 40) (hz : ks.length ≤ 1000)
    (h : ∀ h' o1', Fr h₀ L h' m → News h₀ L h' (mutL td ud op o1' o2 os k ++ rest) → Keys w o1' (keyIn x ks) → Q () { s with heap := h', toks := s.toks + 1 }) : wpAny (model pg w) A (setItem (.ref td) (.str x t) (.int i u)) Q E s := by
  refine setItem_M (dv := .int i) (news' := (op, listOf os.toArray k) :: (ud, o2) :: rest) F N (.tail _ (.tail _ (.head _))) (fun p hp => ?_) (fun p hp => ?_) K hx (.int i u) hz fun h' o' F' N' K' => h h' o' F' (news_sub N' fun p hp => ?_) K'
  · simp only [List.mem_cons] at hp
    rcases hp with rfl | rfl | hp
    · exact hne.2.1
    · exact hne.2.2
    · exact (hap p hp).2.2
  · simp only [mutL, List.cons_append, List.nil_append, List.mem_cons] at hp ⊢
    rcases hp with h | h | h <;> simp [h]
  · simp only [mutL, List.cons_append, List.nil_append, List.mem_cons] at hp ⊢
    rcases hp with h | h | h | h <;> simp [h]
theorem left_view {news : List (Addr × Obj)} {v : Value} {st : St} (h : StIn news v st) (hl : st.left = true) :
    ∃ a n k t i u lv r, v = .ref a ∧ (a, tupO (.str k t :: .int i u :: lv :: r) n) ∈ news ∧ LabIn lv st.lab ∧ ([Str.ofString "break", Str.ofString "continue"].any fun x => x == k) = false ∧ ([Str.ofString "for", Str.ofString "range", Str.ofString "switch", Str.ofString "typeswitch", Str.ofString "choose"].any fun x => x == k) = true ∧ ([Str.ofString "for", Str.ofString "range"].any fun x => x == k) = st.loop := by
  cases h with
  | for_ h hL => exact ⟨_, _, _, _, _, _, _, _, rfl, h, hL, by decide, by decide, by simp only [St.loop]; decide⟩
  | rng h hL => exact ⟨_, _, _, _, _, _, _, _, rfl, h, hL, by decide, by decide, by simp only [St.loop]; decide⟩
  | sw h hL => exact ⟨_, _, _, _, _, _, _, _, rfl, h, hL, by decide, by decide, by simp only [St.loop]; decide⟩
  | cho h hL => exact ⟨_, _, _, _, _, _, _, _, rfl, h, hL, by decide, by decide, by simp only [St.loop]; decide⟩
  | _ => cases hl
theorem in_keys {w : World} {A : Around} {E : Value → Shared → Prop} {s : Shared} {h₀ : Heap} {L d : Addr} {news : List (Addr × Obj)} {o : Obj} {ks : List Str} {x : Str} {t : Tok} {Q : Value → Shared → Prop}
    (N : News h₀ L s.heap news) (hm : (d, o) ∈ news) (lo : (d == sysModules) = false) (K : Keys w o ks) (h : Q (.bool (decide (x ∈ ks))) { s with toks := s.toks + 1 }) : wpAny (model pg w) A (compareOp .In (.str x t) (.ref d)) Q E s := by
  obtain ⟨kvs, D, hd, hf, rfl, _⟩ := K
  refine in_strTab (TabAt.ofNews N hm lo hd hf) ?_
  rw [← hf.isSome PyProof.V.same_str x]
  have e : (valueAt kvs x).isSome = decide (x ∈ kvs.map (·.1)) := by
    unfold valueAt
    rw [Option.isSome_map, Bool.eq_iff_iff, List.find?_isSome, decide_eq_true_iff, List.mem_map]
    exact ⟨fun ⟨p, hp, hx⟩ => ⟨p, hp, of_decide_eq_true hx⟩, fun ⟨p, hp, hx⟩ => ⟨p, hp, decide_eq_true hx⟩⟩
  rw [e]
  exact h
theorem ln47 : True := by
  (k_with "compareOp In str ref" => (k_here; (rename News _ _ _ _ => lN'); k_dflt (refine in_keys lN' (by k_mem) (by assumption) (by assumption) ?_)))
  trivial

theorem ChkIn.opened {w : World} {c td ud op aT : Addr} {os : List Value} {o : Ops} {rest : List (Addr × Obj)} {lv : Value} {l : Option Str} {k : Str} {t : Tok} {lp : Bool} (C : ChkIn w c td ud op os o rest) (h1 : op < aT) (h2 : ud < aT) (h3 : td < aT) (hl : LabIn lv l)
    (hk : ([Str.ofString "for", Str.ofString "range"].any fun x => x == k) = lp) : ChkIn w c td ud op (os ++ [.ref aT]) (o ++ [(l, lp)]) ((aT, tupO [lv, .str k t] 0) :: rest) := by
  obtain ⟨dx, t1, t2, t3, n, g1, g2⟩ := C.inst
  refine ⟨⟨dx, t1, t2, t3, n, .tail _ g1, .tail _ g2⟩, (C.opens.mono sub_t1).snoc (.head _) hl hk, fun p hp => ?_, C.ne, C.low⟩
  rcases List.mem_cons.mp hp with rfl | hp
  · exact ⟨Nat.ne_of_gt h1, Nat.ne_of_gt h2, Nat.ne_of_gt h3⟩
  · exact C.apart p hp
theorem append_C {w : World} {A : Around} {E : Value → Shared → Prop} {s : Shared} {h₀ : Heap} {L c td ud op aT : Addr} {m : Str → Option Value} {o1 o2 : Obj} {os : List Value} {o : Ops} {k : Nat} {rest : List (Addr × Obj)} {lv : Value} {l : Option Str} {kd : Str} {t : Tok} {lp : Bool} {Q : Value → Shared → Prop}
    (C : ChkIn w c td ud op os o rest) (h1 : op < aT) (h2 : ud < aT) (h3 : td < aT) (hl : LabIn lv l) (hk : ([Str.ofString "for", Str.ofString "range"].any fun x => x == kd) = lp)
    (F : Fr h₀ L s.heap m) (N : News h₀ L s.heap ((aT, tupO [lv, .str kd t] 0) :: (mutL td ud op o1 o2 os k ++ rest))) (hz : os.length ≤ 1000)
    (h : ∀ h' x rest', Fr h₀ L h' m → News h₀ L h' (mutL td ud op o1 o2 (os ++ [x]) (k + 1) ++ rest') → (∀ p ∈ rest, p ∈ rest') → ChkIn w c td ud op (os ++ [x]) (o ++ [(l, lp)]) rest' → Q .none { s with heap := h' }) : wpAny (model pg w) A (call (.builtin "list.append") [.ref op, .ref aT]) Q E s :=
  append_T F N C.ne C.apart (Nat.ne_of_gt h1) hz fun h' F' N' => h h' _ _ F' N' sub_t1 (C.opened h1 h2 h3 hl hk)
section
variable {w : World} {mean : ExcName → Option Value} {mg mb : Str → Option Value}
set_option maxRecDepth 100000 in
set_option maxHeartbeats 8000000 in
theorem st_left (st : St) (hl : st.left = true) (IH : ∀ b : Sts, b.sz < st.sz → AllAt w mean mg mb b) : StAt w mean mg mb st := by
  intro c td ud op kk v os o rest s₀ o1 o2 CH hS K1 K2 HR
  intro dp un gd cn cs a ccd cl outer A₀ base h₀ L m sH sG sD sT sO Q E B F X N T hk hdp hun ret exc
  have R : StIn (mutL td ud op o1 o2 os kk ++ rest) v st := StIn.mono sub_left hS
  obtain ⟨dx, t1, t2, t3, nd, hc, hdx⟩ := CH.inst
  obtain ⟨hlow1, hlow2⟩ := CH.low
  obtain ⟨a₁, n, k, t, i, u, lv, r, rfl, hm, hlv, hk1, hk2, hk3⟩ := left_view hS hl
  have hop : os.length ≤ 1000 := by have := HR.2.2; omega
  have hsum2 := sum_inn st
  cases hlb : st.lab with
  | none =>
    rw [hlb] at hlv
    cases hlv
    have ht₀ : tell none s₀ = some s₀ := rfl
    refine wpAny_call ?_
    k_dflt ktr_enter
    k_steps
    · rename Fr _ _ _ _ => F8
      rename News _ _ _ _ => N8
      rename _ < _ ∧ AllLt _ _ => lT
      have hT1 : op < _ := ktn_ltOf lT.2 (op, listOf os.toArray kk) (.head _)
      have hT2 : ud < _ := ktn_ltOf lT.2 (ud, o2) (.tail _ (.head _))
      have hT3 : td < _ := ktn_ltOf lT.2 (td, o1) (.tail _ (.tail _ (.head _)))
      refine Held.intro (append_C (o1 := o1) (o2 := o2) (k := kk) (t := t) (lv := .none) CH hT1 hT2 hT3 LabIn.none hk3 F8 (news_sub N8 fun p hp => ?_) hop ?_)
      · rcases List.mem_cons.mp hp with rfl | hp
        · exact .head _
        · first | exact .tail _ hp | exact .tail _ (.tail _ hp)
      intro h7 x₇ r₇ F7 N7 hr₇ CH'
      clear F8 N8 R
      try dsimp only
      have hS' := StIn.mono hr₇ hS
      have R : StIn (mutL td ud op o1 o2 (os ++ [x₇]) (kk + 1) ++ r₇) _ st := StIn.mono sub_left hS'
      obtain ⟨dx', t1', t2', t3', nd', hc', hdx'⟩ := CH'.inst
      have hHR : Room (st.inn.map Sts.sz).sum s₀ (os ++ [x₇]) := by have := HR.1; have := HR.2.1; have := HR.2.2; refine ⟨by omega, by omega, ?_⟩; rw [List.length_append, List.length_singleton]; omega
      try k_fold
      k_steps
      rename Fr _ _ _ _ => F8
      rename News _ _ _ _ => N8
      refine Held.intro ?_
      try k_fold
      refine (Call.use (inner_lists_spec R) (by k_asm) F8 (by k_asm) (news_sub N8 fun p hp => by first | exact hp | exact List.mem_cons_of_mem _ hp) (by k_asm) (by exact rfl) (by k_room) (by first | exact roomU (by assumption) (by first | decide | omega) | exact roomV (by assumption) (by first | decide | omega) | ((try simp only [units_in1, units_deeper, Around.mark_units, units_caller]); (try dsimp only [ktrTop]); omega)) ?_)
      rintro r9 tl9 h9 tk9 F9 N9 l9 ⟨li9, vs9, ni9, rfl, mi9, hB9⟩
      clear F8 N8
      try dsimp only
      have hB8 := BodiesIn.monoT (no_mut K1 K2) hB9
      have CH9 := CH'.own fun p hp => ⟨Nat.ne_of_gt (l9 p hp _ (.head _)), Nat.ne_of_gt (l9 p hp _ (.tail _ (.head _))), Nat.ne_of_gt (l9 p hp _ (.tail _ (.tail _ (.head _))))⟩
      have N7 := news_sub N9 (perm_in (m := mutL td ud op o1 o2 (os ++ [x₇]) (kk + 1)))
      clear l9 N9
      try k_fold
      k_steps
      rename Fr _ _ _ _ => F8
      refine Held.intro ?_
      try k_fold
      refine (iter_list ["inner"] (fun i nx => ∃ s₁ o1' o2' k', foldO (fun b s => chks b (o ++ [((none : Option Str), st.loop)]) s) (st.inn.take i) s₀ = some s₁ ∧ nx = mutL td ud op o1' o2' (os ++ [x₇]) k' ++ (tl9 ++ r₇) ∧ Keys w o1' s₁.told ∧ Keys w o2' s₁.used) (by exact rfl) (fun i nx h => by obtain ⟨_, _, _, _, _, rfl, _⟩ := h; exact sub_left _ (List.mem_append.mpr (.inl mi9))) F8 N7 ⟨s₀, o1, o2, kk + 1, rfl, rfl, K1, K2⟩ ?_ ?_)
      · intro i2 v2 u2 nx h2 tk2 own hv hP9 hoff F2 N2
        try k_fold
        obtain ⟨s₁, o1', o2', k', hf, rfl, K1', K2'⟩ := hP9
        obtain ⟨b', hb', hB'⟩ := hB8.get hv
        have hz := sz_inn (List.mem_of_getElem? hb')
        have hg := foldO_grows (g := Sts.sz) (fun x s s' h => chks_grows h) hf
        have hsum := sum_take (g := Sts.sz) hb'
        have HR' := hHR.after hg hsum
        have hc8 := mut_mem (own := own) (a := (op, listOf (os ++ [x₇]).toArray k')) (b := (ud, o2')) (c := (td, o1')) (sub_left (a := tl9) _ hc')
        have hdx8 := mut_mem (own := own) (a := (op, listOf (os ++ [x₇]).toArray k')) (b := (ud, o2')) (c := (td, o1')) (sub_left (a := tl9) _ hdx')
        obtain ⟨hm2, hs2⟩ := BodyIn.mono (sub_left (a := own)) hB'
        clear F8 N7
        try k_fold
        k_steps
        rename Fr _ _ _ _ => F8
        rename News _ _ _ _ => N8
        refine Held.intro ?_
        try k_fold
        refine (CallM.use (IH b' hz c td ud op _ _ k' _ _ _ (own ++ (tl9 ++ r₇)) s₁ o1' o2' (CH9.own (off_mut hoff)) hm2 hs2 K1' K2' HR') (by k_asm) F8 (by k_asm) (news_sub N8 perm_in) (by k_asm) (by exact rfl) (by k_room) (by first | exact roomU (by assumption) (by first | decide | omega) | exact roomV (by assumption) (by first | decide | omega) | ((try simp only [units_in1, units_deeper, Around.mark_units, units_caller]); (try dsimp only [ktrTop]); omega)) ?_ ?_)
        · intro r nx h9 tk9 F9 N9 hP9
          try k_fold
          obtain ⟨s', o1'', o2'', k'', e1, rfl, K1'', K2'', rfl⟩ := hP9
          clear F8 N8
          try dsimp only
          try k_fold
          k_steps
          exact ⟨h9, _, _, mutL td ud op o1'' o2'' (os ++ [x₇]) k'' ++ (tl9 ++ r₇), rfl, by assumption, news_sub (by assumption) perm_out, off_same hoff, Same.put (by decide) (Same.lost (by decide) Same.refl), s', o1'', o2'', k'', (foldO_take hf hb').trans e1, rfl, K1'', K2''⟩
        · intro hx e g₂ h9 tk9 R9 FR U
          try dsimp only
          refine leave_onX rfl rfl FR R9 U fun h'' R' U' => ?_
          try dsimp only
          exact exc (by rw [chk1_left hl, hlb, ht₀]; exact foldO_none (i := i2 + 1) ((foldO_take hf hb').trans hx)) _ _ _ _ (raised_sub R' fun p hp => sub_left _ (sub_left _ (hr₇ _ hp))) (by assumption) U'
      · intro u2 nx h2 tk2 hP9 F2 N2
        try k_fold
        obtain ⟨s₁, o1', o2', k', hf, rfl, K1', K2'⟩ := hP9
        clear F8 N7
        try k_fold
        k_steps
        rename Fr _ _ _ _ => F8
        rename News _ _ _ _ => N8
        refine Held.intro (pop_T (rest := rest) F8 (news_sub N8 fun p hp => (List.mem_append.mp hp).elim (fun q => List.mem_append.mpr (.inl q)) fun q => sub_left _ (sub_left _ (hr₇ _ q))) CH.ne CH.apart hop ?_)
        intro h6 F6 N6
        clear F8 N8
        try dsimp only
        try k_fold
        k_steps
        exact ret _ (mutL td ud op o1' o2' os (k' + 1)) _ _ (by assumption) (by assumption) ⟨s₁, o1', o2', k' + 1, by rw [chk1_left hl, hlb, ht₀]; rw [hB8.length, List.take_length] at hf; exact hf, rfl, K1', K2', rfl⟩
  | some x =>
    rw [hlb] at hlv
    cases hlv
    rename_i t₀ hx₀
    refine wpAny_call ?_
    k_dflt ktr_enter
    k_steps
    · rename RaisedN _ _ _ _ _ _ => R9
      rename Heap.UpToSlots _ _ => U9
      rename _ ∈ CSt.told _ => he
      exact exc (by rw [chk1_left hl, hlb]; show (Option.bind (if x ∈ s₀.told then none else _) _) = none; rw [if_pos he]; rfl) _ _ _ _ (raised_sub R9 fun p hp => .tail _ (.tail _ (.tail _ (.tail _ hp)))) (by assumption) U9
    · rename ¬(_ ∈ CSt.told _) => he
      rename Fr _ _ _ _ => F8
      rename News _ _ _ _ => N8
      refine Held.intro (setItem_T F8 (news_sub N8 fun p hp => .tail _ hp) CH.ne CH.apart K1 hx₀ (by have := HR.1; omega) ?_)
      intro h7 o1' F7 N7 K1'
      clear F8 N8 R
      try dsimp only
      have R : StIn (mutL td ud op o1' o2 os kk ++ rest) _ st := StIn.mono sub_left hS
      have ek : keyIn x s₀.told = s₀.told ++ [x] := if_neg he
      have ht₀ : tell (some x) s₀ = some ⟨s₀.told ++ [x], s₀.used⟩ := if_neg he
      rw [ek] at K1'
      try k_fold
      k_steps
      rename Fr _ _ _ _ => F8
      rename News _ _ _ _ => N8
      rename ∀ p ∈ mutL td ud op o1' o2 os kk ++ rest, _ => lT
      have hT1 : op < _ := lT (op, listOf os.toArray kk) (.head _)
      have hT2 : ud < _ := lT (ud, o2) (.tail _ (.head _))
      have hT3 : td < _ := lT (td, o1') (.tail _ (.tail _ (.head _)))
      refine Held.intro (append_C (o1 := o1') (o2 := o2) (k := kk) (t := t) (lv := .str x t₀) CH hT1 hT2 hT3 (.some hx₀) hk3 F8 (news_sub N8 fun p hp => ?_) hop ?_)
      · rcases List.mem_cons.mp hp with rfl | hp
        · exact .head _
        · first | exact .tail _ hp | exact .tail _ (.tail _ hp)
      intro h7 x₇ r₇ F7 N7 hr₇ CH'
      clear F8 N8 R
      try dsimp only
      have hS' := StIn.mono hr₇ hS
      have R : StIn (mutL td ud op o1' o2 (os ++ [x₇]) (kk + 1) ++ r₇) _ st := StIn.mono sub_left hS'
      obtain ⟨dx', t1', t2', t3', nd', hc', hdx'⟩ := CH'.inst
      have hHR : Room (st.inn.map Sts.sz).sum ⟨s₀.told ++ [x], s₀.used⟩ (os ++ [x₇]) := by have := HR.1; have := HR.2.1; have := HR.2.2; refine ⟨?_, ?_, ?_⟩ <;> simp only [List.length_append, List.length_singleton] <;> omega
      try k_fold
      k_steps
      rename Fr _ _ _ _ => F8
      rename News _ _ _ _ => N8
      refine Held.intro ?_
      try k_fold
      refine (Call.use (inner_lists_spec R) (by k_asm) F8 (by k_asm) (news_sub N8 fun p hp => by first | exact hp | exact List.mem_cons_of_mem _ hp) (by k_asm) (by exact rfl) (by k_room) (by first | exact roomU (by assumption) (by first | decide | omega) | exact roomV (by assumption) (by first | decide | omega) | ((try simp only [units_in1, units_deeper, Around.mark_units, units_caller]); (try dsimp only [ktrTop]); omega)) ?_)
      rintro r9 tl9 h9 tk9 F9 N9 l9 ⟨li9, vs9, ni9, rfl, mi9, hB9⟩
      clear F8 N8
      try dsimp only
      have hB8 := BodiesIn.monoT (no_mut K1' K2) hB9
      have CH9 := CH'.own fun p hp => ⟨Nat.ne_of_gt (l9 p hp _ (.head _)), Nat.ne_of_gt (l9 p hp _ (.tail _ (.head _))), Nat.ne_of_gt (l9 p hp _ (.tail _ (.tail _ (.head _))))⟩
      have N7 := news_sub N9 (perm_in (m := mutL td ud op o1' o2 (os ++ [x₇]) (kk + 1)))
      clear l9 N9
      try k_fold
      k_steps
      rename Fr _ _ _ _ => F8
      refine Held.intro ?_
      try k_fold
      refine (iter_list ["inner"] (fun i nx => ∃ s₁ o1' o2' k', foldO (fun b s => chks b (o ++ [((some x : Option Str), st.loop)]) s) (st.inn.take i) ⟨s₀.told ++ [x], s₀.used⟩ = some s₁ ∧ nx = mutL td ud op o1' o2' (os ++ [x₇]) k' ++ (tl9 ++ r₇) ∧ Keys w o1' s₁.told ∧ Keys w o2' s₁.used) (by exact rfl) (fun i nx h => by obtain ⟨_, _, _, _, _, rfl, _⟩ := h; exact sub_left _ (List.mem_append.mpr (.inl mi9))) F8 N7 ⟨⟨s₀.told ++ [x], s₀.used⟩, o1', o2, kk + 1, rfl, rfl, K1', K2⟩ ?_ ?_)
      · intro i2 v2 u2 nx h2 tk2 own hv hP9 hoff F2 N2
        try k_fold
        obtain ⟨s₁, o1', o2', k', hf, rfl, K1', K2'⟩ := hP9
        obtain ⟨b', hb', hB'⟩ := hB8.get hv
        have hz := sz_inn (List.mem_of_getElem? hb')
        have hg := foldO_grows (g := Sts.sz) (fun x s s' h => chks_grows h) hf
        have hsum := sum_take (g := Sts.sz) hb'
        have HR' := hHR.after hg hsum
        have hc8 := mut_mem (own := own) (a := (op, listOf (os ++ [x₇]).toArray k')) (b := (ud, o2')) (c := (td, o1')) (sub_left (a := tl9) _ hc')
        have hdx8 := mut_mem (own := own) (a := (op, listOf (os ++ [x₇]).toArray k')) (b := (ud, o2')) (c := (td, o1')) (sub_left (a := tl9) _ hdx')
        obtain ⟨hm2, hs2⟩ := BodyIn.mono (sub_left (a := own)) hB'
        clear F8 N7
        try k_fold
        k_steps
        rename Fr _ _ _ _ => F8
        rename News _ _ _ _ => N8
        refine Held.intro ?_
        try k_fold
        refine (CallM.use (IH b' hz c td ud op _ _ k' _ _ _ (own ++ (tl9 ++ r₇)) s₁ o1' o2' (CH9.own (off_mut hoff)) hm2 hs2 K1' K2' HR') (by k_asm) F8 (by k_asm) (news_sub N8 perm_in) (by k_asm) (by exact rfl) (by k_room) (by first | exact roomU (by assumption) (by first | decide | omega) | exact roomV (by assumption) (by first | decide | omega) | ((try simp only [units_in1, units_deeper, Around.mark_units, units_caller]); (try dsimp only [ktrTop]); omega)) ?_ ?_)
        · intro r nx h9 tk9 F9 N9 hP9
          try k_fold
          obtain ⟨s', o1'', o2'', k'', e1, rfl, K1'', K2'', rfl⟩ := hP9
          clear F8 N8
          try dsimp only
          try k_fold
          k_steps
          exact ⟨h9, _, _, mutL td ud op o1'' o2'' (os ++ [x₇]) k'' ++ (tl9 ++ r₇), rfl, by assumption, news_sub (by assumption) perm_out, off_same hoff, Same.put (by decide) (Same.lost (by decide) Same.refl), s', o1'', o2'', k'', (foldO_take hf hb').trans e1, rfl, K1'', K2''⟩
        · intro hx e g₂ h9 tk9 R9 FR U
          try dsimp only
          refine leave_onX rfl rfl FR R9 U fun h'' R' U' => ?_
          try dsimp only
          exact exc (by rw [chk1_left hl, hlb, ht₀]; exact foldO_none (i := i2 + 1) ((foldO_take hf hb').trans hx)) _ _ _ _ (raised_sub R' fun p hp => sub_left _ (sub_left _ (hr₇ _ hp))) (by assumption) U'
      · intro u2 nx h2 tk2 hP9 F2 N2
        try k_fold
        obtain ⟨s₁, o1', o2', k', hf, rfl, K1', K2'⟩ := hP9
        clear F8 N7
        try k_fold
        k_steps
        rename Fr _ _ _ _ => F8
        rename News _ _ _ _ => N8
        refine Held.intro (pop_T (rest := rest) F8 (news_sub N8 fun p hp => (List.mem_append.mp hp).elim (fun q => List.mem_append.mpr (.inl q)) fun q => sub_left _ (sub_left _ (hr₇ _ q))) CH.ne CH.apart hop ?_)
        intro h6 F6 N6
        clear F8 N8
        try dsimp only
        try k_fold
        k_steps
        exact ret _ (mutL td ud op o1' o2' os (k' + 1)) _ _ (by assumption) (by assumption) ⟨s₁, o1', o2', k' + 1, by rw [chk1_left hl, hlb, ht₀]; rw [hB8.length, List.take_length] at hf; exact hf, rfl, K1', K2', rfl⟩
end
end
section
set_option tactic.hygienic false
theorem ln48 : True := by
  k_with_none
  (k_with "room" => first | exact roomE (by assumption) | exact roomD (by assumption) (by first | decide | omega) | ((try simp only [depth_mark, depth_under_make, depth_under_kw, depth_in1, depth_deeper, depth_caller]); (try dsimp only [ktrTop]); omega))
  (k_with "mem" => first | exact List.mem_cons_self | (refine List.mem_cons_of_mem _ ?_; first | ktr_member | k_mem))
  (k_with "enter" => (refine' code_def (by first | (k_asm) | fail "no") (by first | (k_asm) | fail "no") (by first | (k_asm) | fail "no") (by first | (k_asm) | fail "no") (by first | (k_asm) | fail "no") (by first | (exact rfl) | fail "no") (by first | (exact rfl) | fail "no") (by first | (first | exact rfl | assumption) | fail "no") (by first | (k_is) | fail "no") (by first | (k_is) | fail "no") (by first | (k_room) | fail "no") (by first | (first | exact BindsTo.of_eq rfl | exact binds_K (by k_in) rfl (by k_is) rfl rfl rfl) | fail "no") (by first | (exact locs rfl) | fail "no") ?_ (by first | (exact rfl) | fail "no") (by first | (exact rfl) | fail "no") (by first | (exact rfl) | fail "no") (by first | (decide) | fail "no"); k_whole; intro g' L' h' FG' F' N' B' X' T'; (try dsimp only); (try k_fold); (try (refine (let en9 := _; let ar9 := Around.deeper _ en9; (?_ : wpAny _ ar9 (execs _ en9) _ _ _))))))
  (k_with "exec For Name Name cons nil" => (k_here; (rename Fr _ _ _ _ => lF'); (with_unfolding_all refine' For_invVF lF' (by first | (exact rfl) | fail "no") (by first | (exact rfl) | fail "no") ?_; k_whole)))
  (k_with "exec For Name Call cons nil" => (k_here; (rename Fr _ _ _ _ => lF'); (with_unfolding_all refine' For_invVF lF' (by first | (exact rfl) | fail "no") (by first | (exact rfl) | fail "no") ?_; k_whole)))
  (k_with "pyIter ref" => (refine Held.out ?_))
  (k_with "subscriptTail" => (k_here; (with_reducible show wpAny _ _ (subscriptTail _ _ (Value.ref _) (Value.int 0 _)) _ _ _); k_dflt (refine' item0 (by first | (exact News.isTup (by k_asm) (by k_mem)) | fail "no") ?_ (by first | (with_unfolding_all rfl) | fail "no"); k_whole)))
  (k_with "compareOp NotIn str ref" => (k_here; (with_reducible show wpAny _ _ (compareOp CmpOp.NotIn (Value.str _ _) (Value.ref _)) _ _ _); (with_unfolding_all refine' notin_tuple_strs (by first | ((refine' tupK (by first | (k_in) | fail "no") (by first | (k_dflt k_is) | fail "no"))) | fail "no") (by first | (repeat constructor) | fail "no") ?_; k_whole)))
  (k_with "ite" => (refine ite_no (by first | ((simp only [beq_eq_false_iff_ne, ne_eq]; assumption)) | fail "no") ?_))
  (k_with "TurnPost" => (dsimp only [TurnPost]))
  trivial

theorem chk_all {w : World} {mean : ExcName → Option Value} {mg mb : Str → Option Value} : ∀ n, (∀ st : St, st.sz < n → StAt w mean mg mb st) ∧ ∀ b : Sts, b.sz < n → AllAt w mean mg mb b
  | 0 => ⟨fun _ h => absurd h (Nat.not_lt_zero _), fun _ h => absurd h (Nat.not_lt_zero _)⟩
  | n + 1 => by
    have ih := chk_all (w := w) (mean := mean) (mg := mg) (mb := mb) n
    have h1 : ∀ st : St, st.sz < n + 1 → StAt w mean mg mb st := fun st hst => by
      have IH : ∀ b : Sts, b.sz < st.sz → AllAt w mean mg mb b := fun b hb => ih.2 b (Nat.lt_of_lt_of_le hb (Nat.le_of_lt_succ hst))
      cases hl : st.left with
      | false => exact st_plain st hl IH
      | true => exact st_left st hl IH
    exact ⟨h1, fun b hb => all_step b fun st hst => h1 st (Nat.lt_of_le_of_lt hst hb)⟩
theorem all_spec {w : World} {mean : ExcName → Option Value} {mg mb : Str → Option Value} (b : Sts) : AllAt w mean mg mb b := (chk_all (b.sz + 1)).2 b (Nat.lt_succ_self _)
section
variable {prog : Program} {w : World} {A : Around} {E : Value → Shared → Prop} {s : Shared} {env : Env} {h₀ : Heap} {x : Str} {body : List Stmt} {Q : Flow → Shared → Prop}
theorem iter_genP {I l : Addr} {n : Nat} {ol : Obj} {m₀ : Str → Option Value} {news : List (Addr × Obj)} {P : Nat → Value → Prop} {St : Nat → Heap → Prop} (stored : List Str) (J : Nat → List (Addr × Obj) → Prop)
    (W : Walks prog w A I [I, l] [I] n P St) (hI : h₀.get? I = none) (hIL : I ≠ env.locals) (hlL : l ≠ env.locals)
    (hSI : ∀ i h, St i h → ∃ o, h.get? I = some o) (hl : ∀ i nx, J i nx → (l, ol) ∈ nx)
    (hnw : ∀ p ∈ news, p.1 ≠ I) (hst : St 0 s.heap) (F : Fr h₀ env.locals s.heap m₀) (N : News h₀ env.locals s.heap news) (hj : J 0 news)
    (turn : ∀ i v u nx h tk own, P i v → J i nx → OwnOff own (nx.map (·.1)) → Fr h₀ env.locals h (fun y => if y = x then some v else lost stored u m₀ y) → News h₀ env.locals h (own ++ nx) →
      wpAny (model prog w) A (execs body env) (TurnPost h₀ env.locals stored m₀ (J (i + 1)) own { s with heap := h, toks := tk } Q) E { s with heap := h, toks := tk })
    (done : ∀ u nx h tk, J n nx → Fr h₀ env.locals h (lost stored u m₀) → News h₀ env.locals h nx → Q .next { s with heap := h, toks := tk }) :
    LoopAtV prog w A h₀ env x body Q E (.ref I) s := by
  refine ⟨I, [I, l], [I], n, P, St, m₀, news, fun i m nx => (∀ z, stored.contains z = false → m z = m₀ z) ∧ J i nx, rfl, W, ?_, ?_, ?_, hst, F, N, ⟨fun _ _ => rfl, hj⟩, ?_, ?_⟩
  · intro hm
    rcases List.mem_cons.mp hm with e | hm
    · exact hIL e.symm
    · exact hlL (List.mem_singleton.mp hm).symm
  · intro b hb; rw [List.mem_singleton.mp hb]; exact hI
  · intro p hp hq; exact hnw p hp (List.mem_singleton.mp hq)
  · rintro i v m₁ nx s₁ own ⟨h, tk, rfl⟩ hi hPv ⟨hm, hJ⟩ hoff hown hget hfp hst₁ F₁ N₁
    obtain ⟨oI, hoI⟩ := hSI _ _ hst₁
    have hIown : (I, oI) ∈ own.filter fun p => decide (p.1 = I) := List.mem_filter.mpr ⟨hfp I (.head _) hI oI hoI, by simp⟩
    have hlo : h.get? l = some ol := (N₁ _ (List.mem_append.mpr (.inr (hl _ _ hJ)))).1
    have hsep : OwnOff (own.filter fun p => decide (p.1 = I)) (nx.map (·.1)) := by
      intro p hp b hb e
      obtain ⟨q, hq, rfl⟩ := List.mem_map.mp hb
      have h1 : p.1 = I := by simpa using (List.mem_filter.mp hp).2
      exact hoff q hq (List.mem_singleton.mpr (e ▸ h1))
    rw [lost_eq hm] at F₁
    refine wpAny_mono (turn i v m₁ nx h tk _ hPv hJ hsep F₁ fun p hp => N₁ p ((List.mem_append.mp hp).elim (fun q => List.mem_append.mpr (.inl (List.mem_filter.mp q).1)) fun q => List.mem_append.mpr (.inr q))) (fun f s₂ p => ?_) fun _ _ e => e
    have fin : TurnEnd h₀ env.locals stored m₀ (J (i + 1)) (own.filter fun p => decide (p.1 = I)) { s with heap := h, toks := tk } s₂ →
        LoopStepU h₀ env.locals [I] own (fun m nx => (∀ z, stored.contains z = false → m z = m₀ z) ∧ J (i + 1) nx) { s with heap := h, toks := tk } .next s₂ := by
      rintro ⟨h', tk', m', nx', e, F', N', ho, hm', hJ'⟩
      refine ⟨rfl, h', tk', m', nx', e, F', fun p hp => ?_, fun p hp hq => ?_, hm', hJ'⟩
      · rcases List.mem_append.mp hp with q | q
        · by_cases hpI : p.1 = I
          · exact N' p (List.mem_append.mpr (.inl (List.mem_filter.mpr ⟨q, by simpa using hpI⟩)))
          · have h1 : p.1 = l := by
              rcases List.mem_cons.mp (hown p q) with h2 | h2
              · exact absurd h2 hpI
              · exact List.mem_singleton.mp h2
            have h2 : h.get? p.1 = some p.2 := hget p q
            rw [h1, hlo] at h2
            have h3 : p = (l, ol) := Prod.ext h1 (Option.some.inj h2).symm
            rw [h3]
            exact N' _ (List.mem_append.mpr (.inr (hl _ _ hJ')))
        · exact N' p (List.mem_append.mpr (.inr q))
      · exact ho _ hIown p.1 (List.mem_map.mpr ⟨p, hp, rfl⟩) (List.mem_singleton.mp hq).symm
    cases f with
    | ret v => exact .ret p
    | brk => exact .brk p
    | next => exact .next (fin p)
    | cont => exact .cont (fin p)
  · rintro h' tk m' nx' F' N' _ ⟨hm, hJ⟩
    rw [lost_eq hm] at F'
    exact done m' nx' h' tk hJ F' N'
end
section
variable {w : World} {A : Around} {E : Value → Shared → Prop} {s : Shared} {env : Env} {h₀ : Heap} {x : Str} {body : List Stmt} {Q : Flow → Shared → Prop}
/-- a loop over the keys of a dict -/
theorem iter_keys {d : Addr} {od : Obj} {ks : List Str} {m₀ : Str → Option Value} {news : List (Addr × Obj)} (stored : List Str) (J : Nat → List (Addr × Obj) → Prop)
    (hh : A.handled = none) (K : Keys w od ks) (lo : (d == sysModules) = false) (hl : ∀ i nx, J i nx → (d, od) ∈ nx)
    (F : Fr h₀ env.locals s.heap m₀) (N : News h₀ env.locals s.heap news) (hj : J 0 news)
    (turn : ∀ i y t u nx h tk own, ks[i]? = some y → J i nx → OwnOff own (nx.map (·.1)) → Fr h₀ env.locals h (fun z => if z = x then some (.str y t) else lost stored u m₀ z) → News h₀ env.locals h (own ++ nx) →
      wpAny (model pg w) A (execs body env) (TurnPost h₀ env.locals stored m₀ (J (i + 1)) own { s with heap := h, toks := tk } Q) E { s with heap := h, toks := tk })
    (done : ∀ u nx h tk, J ks.length nx → Fr h₀ env.locals h (lost stored u m₀) → News h₀ env.locals h nx → Q .next { s with heap := h, toks := tk }) :
    wpAny (model pg w) A (pyIter (.ref d)) (fun it s₂ => LoopAtV pg w A h₀ env x body Q E it s₂) E s := by
  obtain ⟨kvs, D, hd, hf, rfl, _⟩ := K
  have Dm := N _ (hl _ _ hj)
  have hdo : s.heap.DictOf (strKind pg w) d kvs := Heap.dictOf_iff.mpr ⟨_, Dm.1, hd⟩
  obtain ⟨ep, hat⟩ := hdo.dictAt
  refine wpAny_pyIter_dict lo hat ?_
  have hne : d ≠ s.heap.objs.size := Nat.ne_of_lt hat.lt_size
  have W := Walks.dictKeys (prog := pg) (w := w) (knd := strKind pg w) hh s.heap.objs.size d hne kvs ep
  rw [List.length_map] at done
  refine iter_genP (ol := od) stored J W (next_is_new F) (Nat.ne_of_gt F.ns.lt) Dm.2.1 (fun i h st => ?_) hl
    (fun p hp e => absurd (Heap.lt_size (N p hp).1) (e ▸ Nat.lt_irrefl _)) ⟨⟨_, Heap.get?_push_size _ rfl, rfl, rfl⟩, hat.push _⟩ (F.push _) (fun p hp => ⟨Heap.get?_push_of_some _ (N p hp).1, (N p hp).2⟩) hj ?_ done
  · obtain ⟨⟨o, ho, _⟩, _⟩ := st; exact ⟨o, ho⟩
  · rintro i v u nx h tk own ⟨k, xv, hx, hkey⟩ hJ ho F' N'
    obtain ⟨t, rfl⟩ := Value.isStrOf_shape hkey
    exact turn i k t u nx h tk own (by rw [List.getElem?_map, hx]; rfl) hJ ho F' N'
end
end
section
set_option tactic.hygienic false
theorem ln49 : True := by
  k_with_none
  (k_with "room" => first | exact roomE (by assumption) | exact roomD (by assumption) (by first | decide | omega) | ((try simp only [depth_mark, depth_under_make, depth_under_kw, depth_in1, depth_deeper, depth_caller]); (try dsimp only [ktrTop]); omega))
  (k_with "mem" => first | exact List.mem_cons_self | (refine List.mem_cons_of_mem _ ?_; first | ktr_member | k_mem))
  (k_with "enter" => (refine' code_def (by first | (k_asm) | fail "no") (by first | (k_asm) | fail "no") (by first | (k_asm) | fail "no") (by first | (k_asm) | fail "no") (by first | (k_asm) | fail "no") (by first | (exact rfl) | fail "no") (by first | (exact rfl) | fail "no") (by first | (first | exact rfl | assumption) | fail "no") (by first | (k_is) | fail "no") (by first | (k_is) | fail "no") (by first | (k_room) | fail "no") (by first | (first | exact BindsTo.of_eq rfl | exact binds_K (by k_in) rfl (by k_is) rfl rfl rfl) | fail "no") (by first | (exact locs rfl) | fail "no") ?_ (by first | (exact rfl) | fail "no") (by first | (exact rfl) | fail "no") (by first | (exact rfl) | fail "no") (by first | (decide) | fail "no"); k_whole; intro g' L' h' FG' F' N' B' X' T'; (try dsimp only); (try k_fold); (try (refine (let en9 := _; let ar9 := Around.deeper _ en9; (?_ : wpAny _ ar9 (execs _ en9) _ _ _))))))
  (k_with "exec For Name Name cons nil" => (k_here; (rename Fr _ _ _ _ => lF'); (with_unfolding_all refine' For_invVF lF' (by first | (exact rfl) | fail "no") (by first | (exact rfl) | fail "no") ?_; k_whole)))
  (k_with "exec For Name Call cons nil" => (k_here; (rename Fr _ _ _ _ => lF'); (with_unfolding_all refine' For_invVF lF' (by first | (exact rfl) | fail "no") (by first | (exact rfl) | fail "no") ?_; k_whole)))
  (k_with "pyIter ref" => (refine Held.out ?_))
  (k_with "subscriptTail" => (k_here; (with_reducible show wpAny _ _ (subscriptTail _ _ (Value.ref _) (Value.int 0 _)) _ _ _); k_dflt (refine' item0 (by first | (exact News.isTup (by k_asm) (by k_mem)) | fail "no") ?_ (by first | (with_unfolding_all rfl) | fail "no"); k_whole)))
  (k_with "compareOp NotIn str ref" => (k_here; (with_reducible show wpAny _ _ (compareOp CmpOp.NotIn (Value.str _ _) (Value.ref _)) _ _ _); (with_unfolding_all refine' notin_tuple_strs (by first | ((refine' tupK (by first | (k_in) | fail "no") (by first | (k_dflt k_is) | fail "no"))) | fail "no") (by first | (repeat constructor) | fail "no") ?_; k_whole)))
  (k_with "ite" => (refine ite_no (by first | ((simp only [beq_eq_false_iff_ne, ne_eq]; assumption)) | fail "no") ?_))
  (k_with "TurnPost" => (dsimp only [TurnPost]))
  trivial

theorem ln50 : True := by
  (k_with "exec For Name Attribute cons nil" => (k_here; (rename Fr _ _ _ _ => lF'); (with_unfolding_all refine' For_invVF lF' (by first | (exact rfl) | fail "no") (by first | (exact rfl) | fail "no") ?_; k_whole)))
  (k_with "exec Raise some none" => (k_here; k_dflt (refine raise_exec (by exact rfl) ?_)))
  (k_with "call ref" => (k_here; (with_reducible show wpAny _ _ (call (Value.ref 45) _) _ _ _); (try k_fold); k_dflt (refine' Call.go (by first | (k_asm) | fail "no") (by first | (k_asm) | fail "no") (by first | (k_asm) | fail "no") (by first | (k_asm) | fail "no") (by first | (k_asm) | fail "no") (by first | (first | exact rfl | assumption) | fail "no") fault_spec (by first | (k_room) | fail "no") (by first | ((first | exact roomU (by assumption) (by first | decide | omega) | exact roomV (by assumption) (by first | decide | omega) | ((try simp only [units_in1, units_deeper, Around.mark_units, units_caller]); (try dsimp only [ktrTop]); omega))) | fail "no") ?_); intro r9 tl9 h9 tk9 F9 N9 l9 P9; (obtain ⟨e9, eo9, a9, q1, q2, c9, d9⟩ := P9); subst q1; subst q2; (have l8 := l9 _ (List.mem_singleton.mpr rfl)); clear l9; simp only [List.singleton_append] at N9; (try dsimp only at l8); (try k_unfold); (try dsimp only); (try k_fold)))
  (k_with "RaiseFin" => ((rename Fr _ _ _ _ => lF'); (rename News _ _ _ _ => lN'); (rename Frag.In _ _ => lX'); refine ⟨_, _, _, 45, _, rfl, lX'.keeps lF'.keep, (lN' _ (List.Mem.head _)).1, (by assumption), (by assumption), ⟨_, (lX'.keeps lF'.keep) 45 _ (by exact rfl), rfl⟩, (by exact rfl), ?_⟩; (try dsimp only)))
  (k_with "leaving ref" => (k_here; (rename Fr _ _ _ _ => lF'); (rename News _ _ _ _ => lN'); (rename Below _ _ _ _ => lB'); k_dflt (refine leave_newO rfl rfl rfl lB' lF' lN' (by assumption) (by assumption) (by assumption) ?_); intro h' R' U'; (try dsimp only)))
  (k_with "binaryOp Add str str" => (k_here; k_dflt (first | refine add_str ?_ (add_lab (by assumption) (by decide)) | refine add_str ?_ (add_lab2 (by assumption) (by decide) (by decide))); intro t9 tk9; (try dsimp only)))
  trivial

theorem notin_keys {w : World} {A : Around} {E : Value → Shared → Prop} {s : Shared} {h₀ : Heap} {L d : Addr} {news : List (Addr × Obj)} {o : Obj} {ks : List Str} {x : Str} {t : Tok} {Q : Value → Shared → Prop}
    (N : News h₀ L s.heap news) (hm : (d, o) ∈ news) (lo : (d == sysModules) = false) (K : Keys w o ks) (h : Q (.bool (!decide (x ∈ ks))) { s with toks := s.toks + 1 }) : wpAny (model pg w) A (compareOp .NotIn (.str x t) (.ref d)) Q E s := by
  obtain ⟨kvs, D, hd, hf, rfl, _⟩ := K
  refine notin_strTab (TabAt.ofNews N hm lo hd hf) ?_
  rw [← hf.isSome PyProof.V.same_str x]
  have e : (valueAt kvs x).isSome = decide (x ∈ kvs.map (·.1)) := by
    unfold valueAt
    rw [Option.isSome_map, Bool.eq_iff_iff, List.find?_isSome, decide_eq_true_iff, List.mem_map]
    exact ⟨fun ⟨p, hp, hx⟩ => ⟨p, hp, of_decide_eq_true hx⟩, fun ⟨p, hp, hx⟩ => ⟨p, hp, decide_eq_true hx⟩⟩
  rw [e]
  exact h
theorem item_keys {w : World} {A : Around} {E : Value → Shared → Prop} {s : Shared} {h₀ : Heap} {L d : Addr} {news : List (Addr × Obj)} {o : Obj} {ks : List Str} {x : Str} {t : Tok} {value slice : PySem.Expr} {Q : Value → Shared → Prop}
    (N : News h₀ L s.heap news) (hm : (d, o) ∈ news) (lo : (d == sysModules) = false) (K : Keys w o ks) (hx : x ∈ ks) (h : ∀ v, Q v { s with toks := s.toks + 1 })
    (hs : subscripted slice false (.ref d) (.str x t) = operate [.ref d, .str x t] (getItem (.ref d) (.str x t)) ) (hg : ∀ r, letTemporaryGo value (.ref d) r = pure ()) : wpAny (model pg w) A (subscriptTail value slice (.ref d) (.str x t)) Q E s := by
  obtain ⟨kvs, D, hd, hf, rfl, _⟩ := K
  have e : (valueAt kvs x).isSome = true := by
    unfold valueAt
    rw [Option.isSome_map, List.find?_isSome]
    obtain ⟨p, hp, e⟩ := List.mem_map.mp hx
    exact ⟨p, hp, decide_eq_true e⟩
  rw [hf.isSome PyProof.V.same_str x] at e
  obtain ⟨dv, hdv⟩ := Option.isSome_iff_exists.mp e
  exact item_strTab (TabAt.ofNews N hm lo hd hf) hdv (fun v _ => h v) hs hg
theorem ln51 : True := by
  (k_with "compareOp NotIn str ref" => (k_here; (rename News _ _ _ _ => lN'); k_dflt (refine notin_keys lN' (by k_mem) (by assumption) (by assumption) ?_)))
  (k_with "subscriptTail" => (k_here; (with_reducible show wpAny _ _ (subscriptTail _ _ (Value.ref _) (Value.str _ _)) _ _ _); (rename News _ _ _ _ => lN'); k_dflt (refine item_keys lN' (by k_mem) (by assumption) (by assumption) (by assumption) ?_ (by with_unfolding_all rfl) (by intro _; with_unfolding_all rfl)); intro v9; (try dsimp only)))
  trivial

noncomputable def usedOk (s : CSt) : Bool := s.told.all fun x => decide (x ∈ s.used)
section
variable {w : World} {mean : ExcName → Option Value} {mg mb : Str → Option Value}
set_option maxRecDepth 100000 in
set_option maxHeartbeats 8000000 in
theorem check_used_spec {c td ud op : Addr} {kk : Nat} {os : List Value} {o : Ops} {rest : List (Addr × Obj)} {s₀ : CSt} {o1 o2 : Obj} (CH : ChkIn w c td ud op os o rest) (K1 : Keys w o1 s₀.told) (K2 : Keys w o2 s₀.used) :
    CallM w mean mg mb 8 135 [.ref c] (mutL td ud op o1 o2 os kk) rest (fun r nx => r = .none ∧ nx = mutL td ud op o1 o2 os kk ∧ usedOk s₀ = true) (usedOk s₀ = false) := by
  intro dp un gd cn cs a ccd cl outer A₀ base h₀ L m sH sG sD sT sO Q E B F X N T hk hdp hun ret exc
  obtain ⟨dx, t1, t2, t3, nd, hc, hdx⟩ := CH.inst
  obtain ⟨hlow1, hlow2⟩ := CH.low
  refine wpAny_call ?_
  k_dflt ktr_enter
  k_steps
  rename Fr _ _ _ _ => F9
  rename News _ _ _ _ => N9
  refine Held.intro ?_
  try k_fold
  refine (iter_keys ["label"] (fun i nx => nx = mutL td ud op o1 o2 os kk ++ rest ∧ ∀ j y, j < i → s₀.told[j]? = some y → y ∈ s₀.used) (by exact rfl) K1 hlow1 (fun i nx h => by rw [h.1]; exact .tail _ (.tail _ (.head _))) F9 N9 ⟨rfl, fun _ _ h => absurd h (Nat.not_lt_zero _)⟩ ?_ ?_)
  · intro i y t u2 nx h2 tk2 own hv hP9 hoff F2 N2
    try k_fold
    obtain ⟨rfl, hpre⟩ := hP9
    have hx40 : y.length ≤ 40 := by obtain ⟨_, _, _, _, _, h⟩ := K1; exact h y (List.mem_of_getElem? hv)
    have hyt : y ∈ s₀.told := List.mem_of_getElem? hv
    have hc' : (c, instObj 138 dx) ∈ own ++ (mutL td ud op o1 o2 os kk ++ rest) := mut_mem hc
    have hdx' : (dx, chkD w td ud op t1 t2 t3 nd) ∈ own ++ (mutL td ud op o1 o2 os kk ++ rest) := mut_mem hdx
    have htd' : (td, o1) ∈ own ++ (mutL td ud op o1 o2 os kk ++ rest) := sub_left _ (.tail _ (.tail _ (.head _)))
    have hud' : (ud, o2) ∈ own ++ (mutL td ud op o1 o2 os kk ++ rest) := sub_left _ (.tail _ (.head _))
    clear F9 N9
    try k_fold
    k_steps
    · rename _ ∈ CSt.used _ => he
      exact ⟨_, _, _, _, rfl, by assumption, by assumption, hoff, Same.put (by decide) (Same.lost (by decide) Same.refl), rfl, step_pre hpre hv he⟩
    · rename ¬(_ ∈ CSt.used _) => he
      rename RaisedN _ _ _ _ _ _ => R9
      rename Heap.UpToSlots _ _ => U9
      refine exc ?_ _ _ _ _ (raised_sub R9 fun p hp => ?_) (by assumption) U9
      · cases hu : usedOk s₀ with
        | false => rfl
        | true => exact absurd (of_decide_eq_true (List.all_eq_true.mp hu y hyt)) he
      · exact sub_left _ (sub_left _ hp)
  · intro u2 nx h2 tk2 hP9 F2 N2
    try k_fold
    obtain ⟨rfl, hpre⟩ := hP9
    clear F9 N9
    try k_fold
    k_steps
    exact ret _ (mutL td ud op o1 o2 os kk) _ _ (by assumption) (by assumption) ⟨rfl, rfl, List.all_eq_true.mpr fun y hy => decide_eq_true (all_pre hpre (Nat.le_refl _) y hy)⟩
end
end
section
set_option tactic.hygienic false
theorem ln52 : True := by
  k_with_none
  (k_with "room" => first | exact roomE (by assumption) | exact roomD (by assumption) (by first | decide | omega) | ((try simp only [depth_mark, depth_under_make, depth_under_kw, depth_in1, depth_deeper, depth_caller]); (try dsimp only [ktrTop]); omega))
  (k_with "mem" => first | exact List.mem_cons_self | (refine List.mem_cons_of_mem _ ?_; first | ktr_member | k_mem))
  (k_with "enter" => (refine' code_def (by first | (k_asm) | fail "no") (by first | (k_asm) | fail "no") (by first | (k_asm) | fail "no") (by first | (k_asm) | fail "no") (by first | (k_asm) | fail "no") (by first | (exact rfl) | fail "no") (by first | (exact rfl) | fail "no") (by first | (first | exact rfl | assumption) | fail "no") (by first | (k_is) | fail "no") (by first | (k_is) | fail "no") (by first | (k_room) | fail "no") (by first | (first | exact BindsTo.of_eq rfl | exact binds_K (by k_in) rfl (by k_is) rfl rfl rfl) | fail "no") (by first | (exact locs rfl) | fail "no") ?_ (by first | (exact rfl) | fail "no") (by first | (exact rfl) | fail "no") (by first | (exact rfl) | fail "no") (by first | (decide) | fail "no"); k_whole; intro g' L' h' FG' F' N' B' X' T'; (try dsimp only); (try k_fold)))
  (k_with "exec For Name Name cons nil" => (k_here; (rename Fr _ _ _ _ => lF'); (with_unfolding_all refine' For_invVF lF' (by first | (exact rfl) | fail "no") (by first | (exact rfl) | fail "no") ?_; k_whole)))
  (k_with "exec For Name Call cons nil" => (k_here; (rename Fr _ _ _ _ => lF'); (with_unfolding_all refine' For_invVF lF' (by first | (exact rfl) | fail "no") (by first | (exact rfl) | fail "no") ?_; k_whole)))
  (k_with "pyIter ref" => (refine Held.out ?_))
  (k_with "subscriptTail" => (k_here; (with_reducible show wpAny _ _ (subscriptTail _ _ (Value.ref _) (Value.int 0 _)) _ _ _); k_dflt (refine' item0 (by first | (exact News.isTup (by k_asm) (by k_mem)) | fail "no") ?_ (by first | (with_unfolding_all rfl) | fail "no"); k_whole)))
  (k_with "compareOp NotIn str ref" => (k_here; (with_reducible show wpAny _ _ (compareOp CmpOp.NotIn (Value.str _ _) (Value.ref _)) _ _ _); (with_unfolding_all refine' notin_tuple_strs (by first | ((refine' tupK (by first | (k_in) | fail "no") (by first | (k_dflt k_is) | fail "no"))) | fail "no") (by first | (repeat constructor) | fail "no") ?_; k_whole)))
  (k_with "ite" => (refine ite_no (by first | ((simp only [beq_eq_false_iff_ne, ne_eq]; assumption)) | fail "no") ?_))
  (k_with "TurnPost" => (dsimp only [TurnPost]))
  trivial

theorem ln53 : True := by
  (k_with "call ref" => (k_here; (with_reducible show wpAny _ _ (call (Value.ref 116) _) _ _ _); refine Held.out ?_))
  (k_with "call ref" => (k_here; (with_reducible show wpAny _ _ (call (Value.ref 135) _) _ _ _); refine Held.out ?_))
  trivial

noncomputable def chkOk (b : Sts) : Bool := match chks b [] ⟨[], []⟩ with | some s => usedOk s | none => false
theorem chk_start {w : World} {c dx td ud op : Addr} {t1 t2 t3 : Tok} {n : Nat} {news : List (Addr × Obj)} (lo0 : dx < c) (lo1 : ∀ p ∈ [] ++ news, p.1 < dx) (lo2 : c < td ∧ dx < td ∧ AllLt td ([] ++ news)) (lo3 : td < ud ∧ c < ud ∧ dx < ud ∧ AllLt ud ([] ++ news)) (lo4 : ud < op ∧ td < op ∧ c < op ∧ dx < op ∧ AllLt op ([] ++ news))
    (m1 : (td == sysModules) = false) (m2 : (ud == sysModules) = false) : ChkIn w c td ud op [] [] ((c, instObj 138 dx) :: (dx, chkD w td ud op t1 t2 t3 n) :: news) := by
  refine ⟨⟨dx, t1, t2, t3, n, .head _, .tail _ (.head _)⟩, .nil, fun p hp => ?_, ⟨Nat.ne_of_gt lo4.1, Nat.ne_of_gt lo4.2.1, Nat.ne_of_gt lo3.1⟩, m1, m2⟩
  rcases List.mem_cons.mp hp with rfl | hp
  · exact ⟨Nat.ne_of_lt lo4.2.2.1, Nat.ne_of_lt lo3.2.1, Nat.ne_of_lt lo2.1⟩
  rcases List.mem_cons.mp hp with rfl | hp
  · exact ⟨Nat.ne_of_lt lo4.2.2.2.1, Nat.ne_of_lt lo3.2.2.1, Nat.ne_of_lt lo2.2.1⟩
  · have h := lo1 p hp
    exact ⟨Nat.ne_of_lt (Nat.lt_trans h lo4.2.2.2.1), Nat.ne_of_lt (Nat.lt_trans h lo3.2.2.1), Nat.ne_of_lt (Nat.lt_trans h lo2.2.1)⟩
section
variable {w : World} {mean : ExcName → Option Value} {mg mb : Str → Option Value}
set_option maxRecDepth 100000 in
set_option maxHeartbeats 8000000 in
theorem check_labels_spec {k : Addr} {n : Nat} {vs : List Value} {b : Sts} {news : List (Addr × Obj)} (hm : (k, tupO vs n) ∈ news) (hs : StsIn news vs b) (hz : b.sz ≤ 1000) :
    CallM w mean mg mb (3 * b.sz + 18) 149 [.ref k] [] news (fun r nx => r = .none ∧ nx = [] ∧ chkOk b = true) (chkOk b = false) := by
  intro dp un gd cn cs a ccd cl outer A₀ base h₀ L m sH sG sD sT sO Q E B F X N T hk hdp hun ret exc
  refine wpAny_call ?_
  k_dflt ktr_enter
  k_steps
  rename Fr _ _ _ _ => F8
  rename News _ _ _ _ => N8
  rename _ < _ ∧ _ < _ ∧ _ < _ ∧ _ < _ ∧ AllLt _ _ => lo4
  rename _ < _ ∧ _ < _ ∧ _ < _ ∧ AllLt _ _ => lo3
  rename _ < _ ∧ _ < _ ∧ AllLt _ _ => lo2
  rename ∀ p ∈ [] ++ news, _ => lo1
  rename _ < _ => lo0
  refine Held.intro ?_
  try k_fold
  refine (CallM.use (all_spec b _ _ _ _ k n 0 vs [] [] _ ⟨[], []⟩ _ _ (chk_start lo0 lo1 lo2 lo3 lo4 (by assumption) (by assumption)) (.tail _ (.tail _ hm)) (StsIn.mono (sub_tail sub_t1) hs) ⟨[], [], by assumption, by assumption, rfl, fun _ h => (nomatch h)⟩ ⟨[], [], by assumption, by assumption, rfl, fun _ h => (nomatch h)⟩ ⟨by show 0 + b.sz ≤ 1000; omega, by show 0 + b.sz ≤ 1000; omega, by show 0 + b.sz ≤ 1000; omega⟩) (by k_asm) F8 (by k_asm) N8 (by k_asm) (by exact rfl) (by k_room) (by first | exact roomU (by assumption) (by first | decide | omega) | exact roomV (by assumption) (by first | decide | omega) | ((try simp only [units_in1, units_deeper, Around.mark_units, units_caller]); (try dsimp only [ktrTop]); omega)) ?_ ?_)
  · intro r nx h9 tk9 F9 N9 hP9
    try k_fold
    obtain ⟨s', o1', o2', k', e1, rfl, K1', K2', rfl⟩ := hP9
    clear F8 N8
    try dsimp only
    try k_fold
    k_steps
    rename Fr _ _ _ _ => F8
    rename News _ _ _ _ => N8
    refine Held.intro ?_
    try k_fold
    refine (CallM.use (check_used_spec (chk_start lo0 lo1 lo2 lo3 lo4 (by assumption) (by assumption)) K1' K2') (by k_asm) F8 (by k_asm) N8 (by k_asm) (by exact rfl) (by k_room) (by first | exact roomU (by assumption) (by first | decide | omega) | exact roomV (by assumption) (by first | decide | omega) | ((try simp only [units_in1, units_deeper, Around.mark_units, units_caller]); (try dsimp only [ktrTop]); omega)) ?_ ?_)
    · intro r nx h7 tk7 F7 N7 hP9
      try k_fold
      obtain ⟨rfl, rfl, hu⟩ := hP9
      clear F8 N8
      try dsimp only
      try k_fold
      k_steps
      exact ret _ [] _ _ (by assumption) (news_sub (by assumption) fun p hp => sub_left _ (.tail _ (.tail _ hp))) ⟨rfl, rfl, by unfold chkOk; rw [e1]; exact hu⟩
    · intro hx e g₂ h9 tk9 R FR U
      try dsimp only
      refine leave_onX rfl rfl FR R U fun h'' R' U' => ?_
      try dsimp only
      exact exc (by unfold chkOk; rw [e1]; exact hx) _ _ _ _ (raised_sub R' fun p hp => .tail _ (.tail _ hp)) (by assumption) U'
  · intro hx e g₂ h9 tk9 R FR U
    try dsimp only
    refine leave_onX rfl rfl FR R U fun h'' R' U' => ?_
    try dsimp only
    exact exc (by unfold chkOk; rw [hx]) _ _ _ _ (raised_sub R' fun p hp => .tail _ (.tail _ hp)) (by assumption) U'
end
end
section
set_option tactic.hygienic false
theorem ln54 : True := by
  k_with_none
  (k_with "room" => first | exact roomE (by assumption) | exact roomD (by assumption) (by first | decide | omega) | ((try simp only [depth_mark, depth_under_make, depth_under_kw, depth_in1, depth_deeper, depth_caller]); (try dsimp only [ktrTop]); omega))
  (k_with "mem" => first | exact List.mem_cons_self | (refine List.mem_cons_of_mem _ ?_; first | ktr_member | k_mem))
  (k_with "enter" => (refine' code_def (by first | (k_asm) | fail "no") (by first | (k_asm) | fail "no") (by first | (k_asm) | fail "no") (by first | (k_asm) | fail "no") (by first | (k_asm) | fail "no") (by first | (exact rfl) | fail "no") (by first | (exact rfl) | fail "no") (by first | (first | exact rfl | assumption) | fail "no") (by first | (k_is) | fail "no") (by first | (k_is) | fail "no") (by first | (k_room) | fail "no") (by first | (first | exact BindsTo.of_eq rfl | exact binds_K (by k_in) rfl (by k_is) rfl rfl rfl) | fail "no") (by first | (exact locs rfl) | fail "no") ?_ (by first | (exact rfl) | fail "no") (by first | (exact rfl) | fail "no") (by first | (exact rfl) | fail "no") (by first | (decide) | fail "no"); k_whole; intro g' L' h' FG' F' N' B' X' T'; (try dsimp only); (try k_fold); (try (refine (let en9 := _; let ar9 := Around.deeper _ en9; (?_ : wpAny _ ar9 (execs _ en9) _ _ _))))))
  (k_with "exec For Name Name cons nil" => (k_here; (rename Fr _ _ _ _ => lF'); (with_unfolding_all refine' For_invVF lF' (by first | (exact rfl) | fail "no") (by first | (exact rfl) | fail "no") ?_; k_whole)))
  (k_with "exec For Name Call cons nil" => (k_here; (rename Fr _ _ _ _ => lF'); (with_unfolding_all refine' For_invVF lF' (by first | (exact rfl) | fail "no") (by first | (exact rfl) | fail "no") ?_; k_whole)))
  (k_with "pyIter ref" => (refine Held.out ?_))
  (k_with "subscriptTail" => (k_here; (with_reducible show wpAny _ _ (subscriptTail _ _ (Value.ref _) (Value.int 0 _)) _ _ _); k_dflt (refine' item0 (by first | (exact News.isTup (by k_asm) (by k_mem)) | fail "no") ?_ (by first | (with_unfolding_all rfl) | fail "no"); k_whole)))
  (k_with "compareOp NotIn str ref" => (k_here; (with_reducible show wpAny _ _ (compareOp CmpOp.NotIn (Value.str _ _) (Value.ref _)) _ _ _); (with_unfolding_all refine' notin_tuple_strs (by first | ((refine' tupK (by first | (k_in) | fail "no") (by first | (k_dflt k_is) | fail "no"))) | fail "no") (by first | (repeat constructor) | fail "no") ?_; k_whole)))
  (k_with "ite" => (refine ite_no (by first | ((simp only [beq_eq_false_iff_ne, ne_eq]; assumption)) | fail "no") ?_))
  (k_with "TurnPost" => (dsimp only [TurnPost]))
  trivial

theorem ln55 : True := by
  (k_with "call type:tuple" => (k_here; (with_reducible show wpAny _ _ (call (Value.type _) [Value.ref _]) _ _ _); k_dflt (refine' call_tuple_tup (by first | (exact News.isTup (by k_asm) (by k_mem)) | fail "no") ?_; k_whole)))
  trivial

section
variable {w : World} {mean : ExcName → Option Value} {mg mb : Str → Option Value} {news : List (Addr × Obj)}
set_option maxRecDepth 100000 in
set_option maxHeartbeats 8000000 in
theorem law_block_spec {k : Addr} {n : Nat} {vs : List Value} (hm : (k, tupO vs n) ∈ news) : Call w mean mg mb 3 178 [.ref k] news fun r tl => ∃ a t u, r = .ref a ∧ tl = [(a, tupO [.str "block" t, .int 0 u, .ref k] 0)] := by
  intro dp un gd cn cs a ccd cl outer A₀ base h₀ L m sH sG sD sT sO Q E B F X N T hk hdp hun ret
  refine wpAny_call ?_
  k_dflt ktr_enter
  k_steps
  exact ret _ [(_, _)] _ _ (by assumption) (by assumption) (lt_one (by first | assumption | exact allLt_of (by assumption) | tbn_find)) ⟨_, _, _, rfl, rfl⟩
end
theorem ln56 : True := by
  (k_with "call ref" => (k_here; (with_reducible show wpAny _ _ (call (Value.ref 178) _) _ _ _); (try k_fold); k_dflt (refine' Call.go (by first | (k_asm) | fail "no") (by first | (k_asm) | fail "no") (by first | (k_asm) | fail "no") (by first | (k_asm) | fail "no") (by first | (k_asm) | fail "no") (by first | (first | exact rfl | assumption) | fail "no") (law_block_spec (by first | (k_mem) | fail "no")) (by first | (k_room) | fail "no") (by first | ((first | exact roomU (by assumption) (by first | decide | omega) | exact roomV (by assumption) (by first | decide | omega) | ((try simp only [units_in1, units_deeper, Around.mark_units, units_caller]); (try dsimp only [ktrTop]); omega))) | fail "no") ?_); intro r9 tl9 h9 tk9 F9 N9 l9 P9; (obtain ⟨a9, t9, u9, e9, e8⟩ := P9); subst e9; subst e8; (have l8 := l9 _ (List.mem_singleton.mpr rfl)); clear l9; simp only [List.singleton_append] at N9; (try dsimp only at l8); (try k_unfold); (try dsimp only); (try k_fold)))
  trivial

section
variable {w : World} {mean : ExcName → Option Value} {mg mb : Str → Option Value} {news : List (Addr × Obj)}
set_option maxRecDepth 100000 in
set_option maxHeartbeats 8000000 in
theorem law_for2_spec {k : Addr} {n : Nat} {vs : List Value} {lv : Value} {l : Option Str} (hm : (k, tupO vs n) ∈ news) (hl : LabIn lv l) : Call w mean mg mb 5 193 [lv, .ref k] news fun r tl => ∃ a b t u t' u', r = .ref a ∧ tl = [(a, tupO [.str "for" t, .int 0 u, lv, .none, .none, .none, .ref b] 0), (b, tupO [.str "block" t', .int 0 u', .ref k] 0)] := by
  intro dp un gd cn cs a ccd cl outer A₀ base h₀ L m sH sG sD sT sO Q E B F X N T hk hdp hun ret
  cases hl
  all_goals (
    refine wpAny_call ?_
    k_dflt ktr_enter
    k_steps
    exact ret _ [(_, _), (_, _)] _ _ (by assumption) (by assumption) (lt_two (by first | assumption | exact allLt_of (by assumption) | tbn_find) (by first | assumption | exact allLt_of (by assumption) | tbn_find)) ⟨_, _, _, _, _, _, rfl, rfl⟩)
set_option maxRecDepth 100000 in
set_option maxHeartbeats 8000000 in
theorem law_for3_spec {k : Addr} {n : Nat} {vs : List Value} {lv cv : Value} (hm : (k, tupO vs n) ∈ news) : Call w mean mg mb 5 193 [lv, .ref k, cv] news fun r tl => ∃ a b t u t' u', r = .ref a ∧ tl = [(a, tupO [.str "for" t, .int 0 u, lv, .none, cv, .none, .ref b] 0), (b, tupO [.str "block" t', .int 0 u', .ref k] 0)] := by
  intro dp un gd cn cs a ccd cl outer A₀ base h₀ L m sH sG sD sT sO Q E B F X N T hk hdp hun ret
  refine wpAny_call ?_
  k_dflt ktr_enter
  k_steps
  exact ret _ [(_, _), (_, _)] _ _ (by assumption) (by assumption) (lt_two (by first | assumption | exact allLt_of (by assumption) | tbn_find) (by first | assumption | exact allLt_of (by assumption) | tbn_find)) ⟨_, _, _, _, _, _, rfl, rfl⟩
set_option maxRecDepth 100000 in
set_option maxHeartbeats 8000000 in
theorem law_call_spec {cv : Value} : Call w mean mg mb 3 185 [cv] news fun r tl => ∃ a b t u t' u' y v4, r = .ref a ∧ tl = [(a, tupO [.str "expr" t, .int 0 u, .ref b] 0), (b, tupO [.str "call" t', .int 0 u', cv, y, v4] 0)] := by
  intro dp un gd cn cs a ccd cl outer A₀ base h₀ L m sH sG sD sT sO Q E B F X N T hk hdp hun ret
  refine wpAny_call ?_
  k_dflt ktr_enter
  k_steps
  exact ret _ [(_, _), (_, _)] _ _ (by assumption) (news_sub (by assumption) (sub_cons (sub_cons (sub_tail sub_self)))) (lt_two (by first | assumption | exact allLt_of (by assumption) | tbn_find) (by first | assumption | exact allLt_of (by assumption) | tbn_find)) ⟨_, _, _, _, _, _, _, _, rfl, rfl⟩
end
end
section
set_option tactic.hygienic false
theorem ln57 : True := by
  k_with_none
  (k_with "room" => first | exact roomE (by assumption) | exact roomD (by assumption) (by first | decide | omega) | ((try simp only [depth_mark, depth_under_make, depth_under_kw, depth_in1, depth_deeper, depth_caller]); (try dsimp only [ktrTop]); omega))
  (k_with "mem" => first | exact List.mem_cons_self | (refine List.mem_cons_of_mem _ ?_; first | ktr_member | k_mem))
  (k_with "enter" => (refine' code_def (by first | (k_asm) | fail "no") (by first | (k_asm) | fail "no") (by first | (k_asm) | fail "no") (by first | (k_asm) | fail "no") (by first | (k_asm) | fail "no") (by first | (exact rfl) | fail "no") (by first | (exact rfl) | fail "no") (by first | (first | exact rfl | assumption) | fail "no") (by first | (k_is) | fail "no") (by first | (k_is) | fail "no") (by first | (k_room) | fail "no") (by first | (first | exact BindsTo.of_eq rfl | exact binds_K (by k_in) rfl (by k_is) rfl rfl rfl) | fail "no") (by first | (exact locs rfl) | fail "no") ?_ (by first | (exact rfl) | fail "no") (by first | (exact rfl) | fail "no") (by first | (exact rfl) | fail "no") (by first | (decide) | fail "no"); k_whole; intro g' L' h' FG' F' N' B' X' T'; (try dsimp only); (try k_fold); (try (refine (let en9 := _; let ar9 := Around.deeper _ en9; (?_ : wpAny _ ar9 (execs _ en9) _ _ _))))))
  (k_with "exec For Name Name cons nil" => (k_here; (rename Fr _ _ _ _ => lF'); (with_unfolding_all refine' For_invVF lF' (by first | (exact rfl) | fail "no") (by first | (exact rfl) | fail "no") ?_; k_whole)))
  (k_with "exec For Name Call cons nil" => (k_here; (rename Fr _ _ _ _ => lF'); (with_unfolding_all refine' For_invVF lF' (by first | (exact rfl) | fail "no") (by first | (exact rfl) | fail "no") ?_; k_whole)))
  (k_with "pyIter ref" => (refine Held.out ?_))
  (k_with "subscriptTail" => (k_here; (with_reducible show wpAny _ _ (subscriptTail _ _ (Value.ref _) (Value.int 0 _)) _ _ _); k_dflt (refine' item0 (by first | (exact News.isTup (by k_asm) (by k_mem)) | fail "no") ?_ (by first | (with_unfolding_all rfl) | fail "no"); k_whole)))
  (k_with "compareOp NotIn str ref" => (k_here; (with_reducible show wpAny _ _ (compareOp CmpOp.NotIn (Value.str _ _) (Value.ref _)) _ _ _); (with_unfolding_all refine' notin_tuple_strs (by first | ((refine' tupK (by first | (k_in) | fail "no") (by first | (k_dflt k_is) | fail "no"))) | fail "no") (by first | (repeat constructor) | fail "no") ?_; k_whole)))
  (k_with "ite" => (refine ite_no (by first | ((simp only [beq_eq_false_iff_ne, ne_eq]; assumption)) | fail "no") ?_))
  (k_with "TurnPost" => (dsimp only [TurnPost]))
  trivial

theorem funFrames_none {base base' h : Heap} : ∀ {l : List Env}, h.FunFrames base l → (∀ env ∈ l, ∀ a, env.frame = some a → base'.get? a = none) → h.FunFrames base' l
  | [], _, _ => trivial
  | env :: _, ⟨hk, ⟨L, o, hf, _, ho, hd⟩, hr⟩, hin => ⟨hk, ⟨L, o, hf, hin env (.head _) L hf, ho, hd⟩, funFrames_none hr fun e he => hin e (.tail _ he)⟩
/-- the ground without the frames -/
noncomputable abbrev bare (g : Heap) (l : List Env) : Heap := hideAll g (l.filterMap (·.frame))
theorem below_rebase {A : Around} {base g : Heap} {outer : List Env} (B : Below A base outer g) : Below A (bare g outer) outer g :=
  ⟨B.stack, fun _ _ e => of_hideAll _ e, funFrames_none B.frames fun env he a ha => hideAll_none _ (List.mem_filterMap.mpr ⟨env, he, ha⟩)⟩
theorem base_bare {A : Around} {base g : Heap} {outer : List Env} (B : Below A base outer g) : base.StaysIn (bare g outer) := fun b o e => hideAll_get _ (B.stays b o e) fun hm => by
  rw [(B.frames.mem hm).1] at e; cases e
section
variable {prog : Program} {w : World} {A : Around} {E : Value → Shared → Prop} {s : Shared} {K : Frag} {C e : Addr} {Q : Bool → Shared → Prop}
set_option maxRecDepth 100000 in
theorem exc_matches {oe : Obj} (X : K.In s.heap) (he : s.heap.get? e = some oe) (hc : oe.cls = .ref C) {dd : Option Addr} {cdt : ClassData} {sl : Array (Option Value)} (hC : s.heap.get? C = some ⟨.type "type", dd, .cls cdt, sl⟩) (hb : mroIn K C (.type "BaseException") = some true) (hs : mroIn K C (.ref C) = some true) (hq : Q true s) :
    wpAny (model prog w) A (excMatches (.ref e) (.ref C)) Q E s := by
  obtain ⟨h, g, d, t, os⟩ := s
  obtain ⟨oc, od, oda, osl⟩ := oe
  dsimp only at hc X he hC
  subst hc
  have L1 : Looks (model prog w) h (isSubtype (.ref C) (.type "BaseException")) true := looks_mroIn X hb
  have L2 : Looks (model prog w) h (isSubtype (.ref C) (.ref C)) true := looks_mroIn X hs
  have f := tc_notTuple
  unfold excMatches
  repeat (first | with_reducible refine wpAny_loadPart_at he ?_ | with_reducible refine wpAny_loadPart_at hC ?_ | with_reducible refine L1.at ?_ | with_reducible refine L2.at ?_ | wp_step)
  exact hq
end

section
variable {prog : Program} {w : World} {A₀ : Around} {E : Value → Shared → Prop} {s' : Shared} {base base' g g₂ : Heap} {outer : List Env} {L a e : Addr} {m : Str → Option Value} {name : Str} {scope : Scope} {cd : Value}
  {b₀ : Stmt} {suite : List Stmt} {pos np : Pos} {rest : List ExceptHandler} {Q : Flow → Shared → Prop} {news : List (Addr × Obj)} {KF : Frag} {C : Addr}
  {p : Program} {loose : List Str} {mg mb : Str → Option Value} {x : Str}
/-- an exception of the text, caught in a frame with others above it: what is left is known over the ground without the frames -/
theorem caught_M (K : Below A₀ base outer g) (F : Fr base' L g₂ m) (hsm : g₂.UpToSlots s'.heap) (R : RaisedN base' (envOf name scope L a cd :: outer) e (.ref C) news s'.heap)
    (X : KF.In base') (T : TopRead p loose mg mb base') (ex : nsIn KF mainGlobals x = some (some (.ref C)))
    (hb : mroIn KF C (.type "BaseException") = some true) (hs : mroIn KF C (.ref C) = some true) {dd : Option Addr} {cdt : ClassData} {sl : Array (Option Value)} (hC : KF.lookup C = some ⟨.type "type", dd, .cls cdt, sl⟩)
    (k : ∀ h', Fr base' L h' m → News base' L h' news → g₂.UpToSlots h' →
      wpAny (model prog w) ((A₀.deeper (envOf name scope L a cd)).mark (some (.ref e))) (execs (b₀ :: suite) (envOf name scope L a cd)) Q E { s' with heap := h' })
    (hk : scope.kind = .function) (hx : (envOf name scope L a cd).kindOf x = some .globalImplicit) (hd : (x == ("__debug__" : Str)) = false)
    (hE : PassesOwnAt (model prog w) ((A₀.deeper (envOf name scope L a cd)).mark (some (.ref e))) (A₀.deeper (envOf name scope L a cd)) (envOf name scope L a cd) E) :
    wpAny (model prog w) (A₀.deeper (envOf name scope L a cd)) (noteFrame (.ref e) (envOf name scope L a cd))
      (fun _ s₂ => wpAny (model prog w) (A₀.deeper (envOf name scope L a cd)) (setFlight (.ref e) none) (fun _ s₃ =>
        wpAny (model prog w) (A₀.deeper (envOf name scope L a cd)) (handleBy (.ref e) (envOf name scope L a cd) (.ExceptHandler (some (.Name x np)) none (b₀ :: suite) pos :: rest)) Q E s₃) E s₂) E s' := by
  obtain ⟨B, a0, hB, hl, hfl⟩ := R
  have hL : B.get? L = none := by
    obtain ⟨_, ⟨L', _, hf, hn', _⟩, _⟩ := hfl.2.2.1
    obtain rfl : L = L' := Option.some.inj hf
    exact hn'
  refine wpAny_looks_onW (Around.frames_deeper K.stack) rfl hfl fun h₄ hheld₄ hsm₄ => ?_
  refine wpAny_landsW hheld₄ fun h₅ hheld hsm₅' => ?_
  have hsm₅ := hsm₄.trans hsm₅'
  have hheld' := flyingW_base hB hheld
  have F₅ := F.of_stays hheld'.1 (hsm.trans hsm₅)
  obtain ⟨ob, hob, hobc⟩ := hheld'.there
  have X₅ := X.keeps F₅.keep
  refine wpAny_handleBy_cons (codeAny_handlers_test (name_K F₅ X T ex ?_ hk hx hd)) (by intro q; cases q)
  refine exc_matches X₅ hob hobc (X₅ _ _ hC) hb hs (codeAny_handlers_suite ?_)
  refine lands_againW hheld fun h₆ hfl₆ hsm₆ => ?_
  have hfl₆' := flyingW_base hB hfl₆
  have F₆ := F.of_stays hfl₆'.1 ((hsm.trans hsm₅).trans hsm₆)
  exact wpAny_passesOwnAt hE (k h₆ F₆ (fun q hq => ⟨hfl₆.1 _ _ (hl q hq).1, (fun z => by have := (hl q hq).1; rw [z, hL] at this; cases this), (hl q hq).2⟩) ((hsm.trans hsm₅).trans hsm₆))
end
end
section
set_option tactic.hygienic false
theorem ln58 : True := by
  k_with_none
  (k_with "room" => first | exact roomE (by assumption) | exact roomD (by assumption) (by first | decide | omega) | ((try simp only [depth_mark, depth_under_make, depth_under_kw, depth_in1, depth_deeper, depth_caller]); (try dsimp only [ktrTop]); omega))
  (k_with "mem" => first | exact List.mem_cons_self | (refine List.mem_cons_of_mem _ ?_; first | ktr_member | k_mem))
  (k_with "enter" => (refine' code_def (by first | (k_asm) | fail "no") (by first | (k_asm) | fail "no") (by first | (k_asm) | fail "no") (by first | (k_asm) | fail "no") (by first | (k_asm) | fail "no") (by first | (exact rfl) | fail "no") (by first | (exact rfl) | fail "no") (by first | (first | exact rfl | assumption) | fail "no") (by first | (k_is) | fail "no") (by first | (k_is) | fail "no") (by first | (k_room) | fail "no") (by first | (first | exact BindsTo.of_eq rfl | exact binds_K (by k_in) rfl (by k_is) rfl rfl rfl) | fail "no") (by first | (exact locs rfl) | fail "no") ?_ (by first | (exact rfl) | fail "no") (by first | (exact rfl) | fail "no") (by first | (exact rfl) | fail "no") (by first | (decide) | fail "no"); k_whole; intro g' L' h' FG' F' N' B' X' T'; (try dsimp only); (try k_fold); (try (refine (let en9 := _; let ar9 := Around.deeper _ en9; (?_ : wpAny _ ar9 (execs _ en9) _ _ _))))))
  (k_with "exec For Name Name cons nil" => (k_here; (rename Fr _ _ _ _ => lF'); (with_unfolding_all refine' For_invVF lF' (by first | (exact rfl) | fail "no") (by first | (exact rfl) | fail "no") ?_; k_whole)))
  (k_with "exec For Name Call cons nil" => (k_here; (rename Fr _ _ _ _ => lF'); (with_unfolding_all refine' For_invVF lF' (by first | (exact rfl) | fail "no") (by first | (exact rfl) | fail "no") ?_; k_whole)))
  (k_with "pyIter ref" => (refine Held.out ?_))
  (k_with "subscriptTail" => (k_here; (with_reducible show wpAny _ _ (subscriptTail _ _ (Value.ref _) (Value.int 0 _)) _ _ _); k_dflt (refine' item0 (by first | (exact News.isTup (by k_asm) (by k_mem)) | fail "no") ?_ (by first | (with_unfolding_all rfl) | fail "no"); k_whole)))
  (k_with "compareOp NotIn str ref" => (k_here; (with_reducible show wpAny _ _ (compareOp CmpOp.NotIn (Value.str _ _) (Value.ref _)) _ _ _); (with_unfolding_all refine' notin_tuple_strs (by first | ((refine' tupK (by first | (k_in) | fail "no") (by first | (k_dflt k_is) | fail "no"))) | fail "no") (by first | (repeat constructor) | fail "no") ?_; k_whole)))
  (k_with "ite" => (refine ite_no (by first | ((simp only [beq_eq_false_iff_ne, ne_eq]; assumption)) | fail "no") ?_))
  (k_with "TurnPost" => (dsimp only [TurnPost]))
  trivial

section
variable {prog : Program} {w : World} {A A₀ : Around} {s : Shared} {K : Frag} {L : Addr} {h₀ base : Heap} {m mg mb : Str → Option Value} {news : List (Addr × Obj)} {p : Program} {loose : List Str} {mean : ExcName → Option Value}
theorem code_defR {env : Env} {outer : List Env} {R : Result → Shared → Prop} {name qual : Str} {params : Arguments} {body : List Stmt} {scope : Scope} {dV kV doc pm cdv ct oc : Value} {an od : Option Addr} {osl : Array (Option Value)} {f : Addr} {args : Args} {binds : List (Str × Value)}
    (B : Below A₀ base outer h₀) (F : Fr h₀ L s.heap m) (X₀ : K.In h₀) (N : News h₀ L s.heap news) (T : Top p loose mean mg mb h₀) (hA : A.frames = some (env :: outer)) (hf : env.frame = some L) (hke : env.scope.kind = .function)
    (ho : K.lookup f = some ⟨oc, od, .func (fnOf name qual params body scope dV kV doc pm an cdv ct), osl⟩) (hcd : codeIn K cdv qual = true) (hroom : A.depth < recursionLimit)
    (hbind : BindsTo s (fnOf name qual params body scope dV kV doc pm an cdv ct) args binds) (hloc : ∀ y ∈ binds, scope.names.lookup y.1 = some .local)
    (h : ∀ g L' h₁, g = hideAll s.heap (news.map (·.1)) → Fr h₀ L g m → Fr g L' h₁ (fun y => binds.reverse.lookup y) → News g L' h₁ news → Below A base (env :: outer) g → K.In g → Top p loose mean mg mb g →
      wpAny (model prog w) (A.deeper (envOf qual scope L' f cdv)) (execs body (envOf qual scope L' f cdv))
        (fun fl s' => R (.ok (.ret (match fl with | .ret v => v | _ => .none))) s')
        (fun e s' => wpAny (model prog w) (A.deeper (envOf qual scope L' f cdv)) (leaving (envOf qual scope L' f cdv) e) (fun _ s'' => R (.error e) s'') (fun e' s'' => R (.error e') s'') s')
        { s with heap := h₁, toks := s.toks + binds.length })
    (hco : scope.isCoroutine = false) (hgen : scope.isGenerator = false) (hk : scope.kind = .function)
    (hcell : ∀ x ∈ scope.names, x.2 ≠ .cell) : codeAny (model prog w) A (.call (.ref f) args) R s := by
  obtain ⟨FG, BG, st, _⟩ := groundX (R := R) B F N hA hf hke
  refine codeAny_call_def (fd := fnX name qual params body scope [] dV kV doc pm an cdv ct) (body := body) (binds := binds) hroom ((X₀.keeps F.keep) _ _ ho) rfl (T.nolimit.keeps F.keep) (codeRec_of (X₀.keeps F.keep) hcd) rfl hbind hcell hloc (fun h₁ hns hk₁ => ?_) hco hgen hk
  exact h _ s.heap.objs.size h₁ rfl FG ⟨hns, fun b o e => hk₁ b o (of_hideAll _ e), Nat.le_of_eq (hideAll_size _ _)⟩
    (fun p hp => ⟨hk₁ _ _ (N p hp).1, Nat.ne_of_lt (Heap.lt_size (N p hp).1), hideAll_none _ (List.mem_map_of_mem hp)⟩) BG (X₀.keeps st) (T.keeps st)
end
/-- a call that may have caught: what is left is known over the ground without the frames -/
noncomputable def CallZ (w : World) (mean : ExcName → Option Value) (mg mb : Str → Option Value) (need : Nat) (f : Addr) (vs : List Value) (news : List (Addr × Obj)) (Post : Value → Prop) : Prop :=
  ∀ (dp un : Nat) (gd : Option (List Code)) (cn : Str) (cs : Scope) (a : Addr) (ccd : Value) (cl : List (Str × Addr)) (outer : List Env) (A₀ : Around) (base h₀ : Heap) (L : Addr) (m : Str → Option Value) (sH : Heap) (sG : Array GenState) (sD : Drawn) (sT : Nat) (sO : OsState) (Q E : Value → Shared → Prop),
    Below A₀ base outer h₀ → Fr h₀ L sH m → (hd.heap_1 w.params).In h₀ → News h₀ L sH news → Top hd.view_1 lo mean mg mb h₀ → (hd.heap_1 w.params).In base → Top hd.view_1 lo mean mg mb base → cs.kind = .function → dp + need < recursionLimit → un + 8 * need < cLine →
    (∀ r h' tk', Fr (bare h₀ outer) L h' m → News (bare h₀ outer) L h' news → h₀.UpToSlots h' → Post r → Q r { heap := h', gens := sG, drawn := sD, toks := tk', os := sO }) →
    wpAny (model PySem.Challenge.rw_pf0071_01.prog w) (ktrTop dp un gd cn cs L a ccd cl outer) (call (.ref f) vs) Q E { heap := sH, gens := sG, drawn := sD, toks := sT, os := sO }
theorem fr_weak {h₀ h : Heap} {L : Addr} {m : Str → Option Value} (as : List Addr) (F : Fr h₀ L h m) : Fr (hideAll h₀ as) L h m := ⟨F.ns, fun b o e => F.keep b o (of_hideAll _ e), by rw [hideAll_size]; exact F.above⟩
theorem news_weak {h₀ h : Heap} {L : Addr} {news : List (Addr × Obj)} (as : List Addr) (N : News h₀ L h news) : News (hideAll h₀ as) L h news := fun p hp => ⟨(N p hp).1, (N p hp).2.1, by
  cases q : (hideAll h₀ as).get? p.1 with
  | none => rfl
  | some o => have := of_hideAll _ q; rw [(N p hp).2.2] at this; cases this⟩
theorem back_Z {g h₀ h' : Heap} {outer : List Env} {env : Env} {L : Addr} {m : Str → Option Value} {news : List (Addr × Obj)} (hf : env.frame = some L) (FG : Fr h₀ L g m) (N : ∀ p ∈ news, p.1 ≠ L ∧ h₀.get? p.1 = none)
    (st : (bare g (env :: outer)).StaysIn h') (U : g.UpToSlots h') (hn : ∀ p ∈ news, h'.get? p.1 = some p.2) : Fr (bare h₀ outer) L h' m ∧ News (bare h₀ outer) L h' news ∧ h₀.UpToSlots h' := by
  have hL0 : h₀.get? L = none := by
    cases q : h₀.get? L with
    | none => rfl
    | some o => exact absurd (Nat.lt_of_lt_of_le (Heap.lt_size q) FG.above) (Nat.lt_irrefl _)
  have s1 : (bare h₀ outer).StaysIn h' := fun b o e => by
    have e0 := of_hideAll _ e
    refine st b o (hideAll_get _ (FG.keep b o e0) fun hm => ?_)
    obtain ⟨env', he, hf'⟩ := List.mem_filterMap.mp hm
    rcases List.mem_cons.mp he with rfl | he
    · rw [hf] at hf'
      rw [← Option.some.inj hf', hL0] at e0; cases e0
    · have hn := hideAll_none (h := h₀) (outer.filterMap (·.frame)) (List.mem_filterMap.mpr ⟨env', he, hf'⟩)
      rw [hn] at e; cases e
  exact ⟨(fr_weak _ FG).of_stays s1 U, fun p hp => ⟨hn p hp, (N p hp).1, by
    cases q : (bare h₀ outer).get? p.1 with
    | none => rfl
    | some o => have := of_hideAll _ q; rw [(N p hp).2] at this; cases this⟩, (Heap.UpToSlots.of_keeps FG.keep).trans U⟩
theorem ln59 : True := by
  (k_with "enter" => (refine' code_defR (by first | (k_asm) | fail "no") (by first | (k_asm) | fail "no") (by first | (k_asm) | fail "no") (by first | (k_asm) | fail "no") (by first | (k_asm) | fail "no") (by first | (exact rfl) | fail "no") (by first | (exact rfl) | fail "no") (by first | (first | exact rfl | assumption) | fail "no") (by first | (k_is) | fail "no") (by first | (k_is) | fail "no") (by first | (k_room) | fail "no") (by first | (first | exact BindsTo.of_eq rfl | exact binds_K (by k_in) rfl (by k_is) rfl rfl rfl) | fail "no") (by first | (exact locs rfl) | fail "no") ?_ (by first | (exact rfl) | fail "no") (by first | (exact rfl) | fail "no") (by first | (exact rfl) | fail "no") (by first | (decide) | fail "no"); k_whole; intro g' L' h' eg' FG' F' N' B' X' T'; (try dsimp only); (try k_fold); (try (refine (let en9 := _; let ar9 := Around.deeper _ en9; (?_ : wpAny _ ar9 (execs _ en9) _ _ _))))))
  (k_with "exec Try" => (k_here; k_dflt (refine wpAny_Try_except ?_)))
  (k_with "exec Try cons cons nil nil" => (k_here; k_dflt (refine wpAny_Try_except ?_)))
  (k_with "call ref" => (k_here; (with_reducible show wpAny _ _ (call (Value.ref 149) _) _ _ _); refine Held.out ?_))
  trivial

section
variable {w : World} {mean : ExcName → Option Value} {mg mb : Str → Option Value} {news : List (Addr × Obj)}
set_option maxRecDepth 100000 in
set_option maxHeartbeats 8000000 in
theorem is_let_spec {k : Addr} {n : Nat} {vs : List Value} {b : Sts} (hm : (k, tupO vs n) ∈ news) (hs : StsIn news vs b) (hz : b.sz ≤ 100) :
    CallZ w mean mg mb (3 * b.sz + 20) 222 [.ref k] news (fun r => r = .bool (chkOk b)) := by
  intro dp un gd cn cs a ccd cl outer A₀ base h₀ L m sH sG sD sT sO Q E B F X N T Xb Tb hk hdp hun ret
  refine wpAny_call ?_
  k_dflt ktr_enter
  k_steps
  rename Fr _ _ _ _ => F9
  rename Fr h₀ L _ m => FG9
  rename News _ _ _ _ => N9
  rename Below _ _ _ _ => B9
  rename Top _ _ _ _ _ _ => T9
  rename Frag.In _ _ => X9
  have hNL : ∀ p ∈ news, p.1 ≠ L ∧ h₀.get? p.1 = none := fun p hp => (N p hp).2
  refine Held.intro ?_
  try k_fold
  refine (CallM.use (check_labels_spec hm hs (Nat.le_trans hz (by decide))) (below_rebase B9) F9 X9 N9 T9 (by exact rfl) (by k_room) (by first | exact roomU (by assumption) (by first | decide | omega) | exact roomV (by assumption) (by first | decide | omega) | ((try simp only [units_in1, units_deeper, Around.mark_units, units_caller]); (try dsimp only [ktrTop]); omega)) ?_ ?_)
  · intro r nx h8 tk8 F8 N8 hP9
    try k_fold
    obtain ⟨rfl, rfl, hu⟩ := hP9
    try dsimp only
    clear F9 N9
    try k_fold
    k_steps
    rename Fr _ _ _ _ => F9
    rename News _ _ _ _ => N9
    obtain ⟨z1, z2, z3⟩ := back_Z (outer := outer) (env := envX cn cs L a ccd cl) rfl FG9 hNL (fun b o e => F9.keep b o (of_hideAll _ e)) (Heap.UpToSlots.of_keeps F9.keep) (fun p hp => (N9 p hp).1)
    exact ret _ _ _ z1 z2 z3 (congrArg Value.bool hu.symm)
  · intro hx e g₂ h8 tk8 R FR U
    try dsimp only
    refine caught_M B9 (fr_weak _ FR) U R (Xb.keeps (base_bare B9)) (topRead_of (Tb.keeps (base_bare B9))) (by k_is) (by k_is) (by k_is) (by k_dflt k_is) ?_ rfl rfl (by decide) (by passes_own)
    intro h7 F7 N7 U7
    try dsimp only
    clear F9 N9
    try k_fold
    k_steps
    rename Fr _ _ _ _ => F9
    rename News _ _ _ _ => N9
    obtain ⟨z1, z2, z3⟩ := back_Z (outer := outer) (env := envX cn cs L a ccd cl) rfl FG9 hNL F9.keep ((Heap.UpToSlots.of_keeps FR.keep).trans U7) (fun p hp => (N9 p hp).1)
    exact ret _ _ _ z1 z2 z3 (congrArg Value.bool hx.symm)
end
end
section
set_option tactic.hygienic false
theorem ln60 : True := by
  k_with_none
  (k_with "room" => first | exact roomE (by assumption) | exact roomD (by assumption) (by first | decide | omega) | ((try simp only [depth_mark, depth_under_make, depth_under_kw, depth_in1, depth_deeper, depth_caller]); (try dsimp only [ktrTop]); omega))
  (k_with "mem" => first | exact List.mem_cons_self | (refine List.mem_cons_of_mem _ ?_; first | ktr_member | k_mem))
  (k_with "enter" => (refine' code_def (by first | (k_asm) | fail "no") (by first | (k_asm) | fail "no") (by first | (k_asm) | fail "no") (by first | (k_asm) | fail "no") (by first | (k_asm) | fail "no") (by first | (exact rfl) | fail "no") (by first | (exact rfl) | fail "no") (by first | (first | exact rfl | assumption) | fail "no") (by first | (k_is) | fail "no") (by first | (k_is) | fail "no") (by first | (k_room) | fail "no") (by first | (first | exact BindsTo.of_eq rfl | exact binds_K (by k_in) rfl (by k_is) rfl rfl rfl) | fail "no") (by first | (exact locs rfl) | fail "no") ?_ (by first | (exact rfl) | fail "no") (by first | (exact rfl) | fail "no") (by first | (exact rfl) | fail "no") (by first | (decide) | fail "no"); k_whole; intro g' L' h' FG' F' N' B' X' T'; (try dsimp only); (try k_fold); (try (refine (let en9 := _; let ar9 := Around.deeper _ en9; (?_ : wpAny _ ar9 (execs _ en9) _ _ _))))))
  (k_with "exec For Name Name cons nil" => (k_here; (rename Fr _ _ _ _ => lF'); (with_unfolding_all refine' For_invVF lF' (by first | (exact rfl) | fail "no") (by first | (exact rfl) | fail "no") ?_; k_whole)))
  (k_with "exec For Name Call cons nil" => (k_here; (rename Fr _ _ _ _ => lF'); (with_unfolding_all refine' For_invVF lF' (by first | (exact rfl) | fail "no") (by first | (exact rfl) | fail "no") ?_; k_whole)))
  (k_with "pyIter ref" => (refine Held.out ?_))
  (k_with "subscriptTail" => (k_here; (with_reducible show wpAny _ _ (subscriptTail _ _ (Value.ref _) (Value.int 0 _)) _ _ _); k_dflt (refine' item0 (by first | (exact News.isTup (by k_asm) (by k_mem)) | fail "no") ?_ (by first | (with_unfolding_all rfl) | fail "no"); k_whole)))
  (k_with "compareOp NotIn str ref" => (k_here; (with_reducible show wpAny _ _ (compareOp CmpOp.NotIn (Value.str _ _) (Value.ref _)) _ _ _); (with_unfolding_all refine' notin_tuple_strs (by first | ((refine' tupK (by first | (k_in) | fail "no") (by first | (k_dflt k_is) | fail "no"))) | fail "no") (by first | (repeat constructor) | fail "no") ?_; k_whole)))
  (k_with "ite" => (refine ite_no (by first | ((simp only [beq_eq_false_iff_ne, ne_eq]; assumption)) | fail "no") ?_))
  (k_with "TurnPost" => (dsimp only [TurnPost]))
  trivial

theorem ln61 : True := by
  (k_with "enter" => (refine' code_defR (by first | (k_asm) | fail "no") (by first | (k_asm) | fail "no") (by first | (k_asm) | fail "no") (by first | (k_asm) | fail "no") (by first | (k_asm) | fail "no") (by first | (exact rfl) | fail "no") (by first | (exact rfl) | fail "no") (by first | (first | exact rfl | assumption) | fail "no") (by first | (k_is) | fail "no") (by first | (k_is) | fail "no") (by first | (k_room) | fail "no") (by first | (first | exact BindsTo.of_eq rfl | exact binds_K (by k_in) rfl (by k_is) rfl rfl rfl) | fail "no") (by first | (exact locs rfl) | fail "no") ?_ (by first | (exact rfl) | fail "no") (by first | (exact rfl) | fail "no") (by first | (exact rfl) | fail "no") (by first | (decide) | fail "no"); k_whole; intro g' L' h' eg' FG' F' N' B' X' T'; (try dsimp only); (try k_fold); (try (refine (let en9 := _; let ar9 := Around.deeper _ en9; (?_ : wpAny _ ar9 (execs _ en9) _ _ _))))))
  trivial

theorem CallZ.use {w : World} {mean : ExcName → Option Value} {mg mb : Str → Option Value} {need : Nat} {f : Addr} {vs : List Value} {news : List (Addr × Obj)} {Post : Value → Prop}
    (C : CallZ w mean mg mb need f vs news Post) {dp un : Nat} {gd : Option (List Code)} {cn : Str} {cs : Scope} {a : Addr} {ccd : Value} {cl : List (Str × Addr)} {outer : List Env} {A₀ : Around} {base h₀ : Heap} {L : Addr} {m : Str → Option Value} {sH : Heap} {sG : Array GenState} {sD : Drawn} {sT : Nat} {sO : OsState} {Q E : Value → Shared → Prop}
    (B : Below A₀ base outer h₀) (F : Fr h₀ L sH m) (X : (hd.heap_1 w.params).In h₀) (N : News h₀ L sH news) (T : Top hd.view_1 lo mean mg mb h₀) (Xb : (hd.heap_1 w.params).In base) (Tb : Top hd.view_1 lo mean mg mb base) (hk : cs.kind = .function) (hd : dp + need < recursionLimit) (hu : un + 8 * need < cLine)
    (ret : ∀ r h' tk', Fr (bare h₀ outer) L h' m → News (bare h₀ outer) L h' news → h₀.UpToSlots h' → Post r → Q r { heap := h', gens := sG, drawn := sD, toks := tk', os := sO }) :
    wpAny (model PySem.Challenge.rw_pf0071_01.prog w) (ktrTop dp un gd cn cs L a ccd cl outer) (call (.ref f) vs) Q E { heap := sH, gens := sG, drawn := sD, toks := sT, os := sO } := C _ _ _ _ _ _ _ _ _ _ _ _ _ _ _ _ _ _ _ _ _ B F X N T Xb Tb hk hd hu ret
structure Row where
  body : Sts
  term : Bool
  never : Bool
  labels : List Str
  leaves : Bool
  goes : Bool
inductive LabsIn : List Value → List Str → Prop
  | nil : LabsIn [] []
  | cons {x : Str} {t : Tok} {vs : List Value} {xs : List Str} (hx : x.length ≤ 40) : LabsIn vs xs → LabsIn (.str x t :: vs) (x :: xs)
inductive RowIn (news : List (Addr × Obj)) : Value → Row → Prop
  | mk {a k ll : Addr} {n n' n'' : Nat} {vs ls : List Value} {r : Row} : (a, tupO [.ref k, .bool r.term, .bool r.never, .ref ll, .bool r.leaves, .bool r.goes] n) ∈ news → (k, tupO vs n') ∈ news → StsIn news vs r.body → (ll, listOf ls.toArray n'') ∈ news → LabsIn ls r.labels → RowIn news (.ref a) r
theorem RowIn.mono {news news' : List (Addr × Obj)} (hs : ∀ p ∈ news, p ∈ news') {v : Value} {r : Row} : RowIn news v r → RowIn news' v r
  | .mk h1 h2 h3 h4 h5 => .mk (hs _ h1) (hs _ h2) (h3.mono hs) (hs _ h4) h5
noncomputable def Row.right (r : Row) : Bool := (!((terms r.body != r.term) || (hbs r.body none true != r.leaves))) && (chkOk r.body == (!r.never && !r.leaves && !r.goes))
theorem ln62 : True := by
  (k_with "call ref" => (k_here; (with_reducible show wpAny _ _ (call (Value.ref 222) _) _ _ _); refine Held.out ?_))
  (k_with "call ref" => (k_here; (with_reducible show wpAny _ _ (call (Value.ref 95) _) _ _ _); refine Held.out ?_))
  (k_with "call ref" => (k_here; (with_reducible show wpAny _ _ (call (Value.ref 69) _) _ _ _); refine Held.out ?_))
  trivial

section
variable {w : World} {mean : ExcName → Option Value} {mg mb : Str → Option Value} {news : List (Addr × Obj)}
set_option maxRecDepth 100000 in
set_option maxHeartbeats 8000000 in
theorem law_right_spec {v : Value} {row : Row} (R : RowIn news v row) (hz : row.body.sz ≤ 100) :
    CallZ w mean mg mb (6 * row.body.sz + 25) 229 [v] news (fun r => r = .bool row.right) := by
  intro dp un gd cn cs a ccd cl outer A₀ base h₀ L m sH sG sD sT sO Q E B F X N T Xb Tb hk hdp hun ret
  obtain ⟨h1, h2, h3, h4, h5⟩ := R
  refine wpAny_call ?_
  k_dflt ktr_enter
  rename Fr h₀ L _ m => FG9
  have hNL : ∀ p ∈ news, p.1 ≠ L ∧ h₀.get? p.1 = none := fun p hp => (N p hp).2
  try k_fold
  k_steps
  rename Fr _ _ _ _ => F9
  rename News _ _ _ _ => N9
  refine Held.intro ?_
  try k_fold
  refine (Call.use ((is_terminating_spec row.body).use h2 h3) (by k_asm) F9 (by k_asm) N9 (by k_asm) (by exact rfl) (by k_room) (by first | exact roomU (by assumption) (by first | decide | omega) | exact roomV (by assumption) (by first | decide | omega) | ((try simp only [units_in1, units_deeper, Around.mark_units, units_caller]); (try dsimp only [ktrTop]); omega)) ?_)
  rintro r9 tl9 h9 tk9 F8 N8 l9 ⟨rfl, rfl⟩
  simp only [List.nil_append] at N8
  clear F9 N9 l9
  try dsimp only
  try k_fold
  k_steps
  · rename (terms row.body != row.term) = true => hr1
    rename Fr _ _ _ _ => F9
    rename News _ _ _ _ => N9
    obtain ⟨z1, z2, z3⟩ := back_Z (outer := outer) (env := envX cn cs L a ccd cl) rfl FG9 hNL (fun b o e => F9.keep b o (of_hideAll _ e)) (Heap.UpToSlots.of_keeps F9.keep) (fun p hp => (N9 p hp).1)
    exact ret _ _ _ z1 z2 z3 (congrArg Value.bool (by unfold Row.right; rw [hr1]; rfl))
  · rename (terms row.body != row.term) = false => hr1
    rename Fr _ _ _ _ => F9
    rename News _ _ _ _ => N9
    refine Held.intro ?_
    try k_fold
    refine (Call.use (HbAt2.use (has_break2_spec row.body) .none h2 h3) (by k_asm) F9 (by k_asm) N9 (by k_asm) (by exact rfl) (by k_room) (by first | exact roomU (by assumption) (by first | decide | omega) | exact roomV (by assumption) (by first | decide | omega) | ((try simp only [units_in1, units_deeper, Around.mark_units, units_caller]); (try dsimp only [ktrTop]); omega)) ?_)
    rintro r9 tl9 h9 tk9 F8 N8 l9 ⟨rfl, rfl⟩
    simp only [List.nil_append] at N8
    clear F9 N9 l9
    try dsimp only
    try k_fold
    k_steps
    · rename (hbs row.body none true != row.leaves) = true => hr2
      rename Fr _ _ _ _ => F9
      rename News _ _ _ _ => N9
      obtain ⟨z1, z2, z3⟩ := back_Z (outer := outer) (env := envX cn cs L a ccd cl) rfl FG9 hNL (fun b o e => F9.keep b o (of_hideAll _ e)) (Heap.UpToSlots.of_keeps F9.keep) (fun p hp => (N9 p hp).1)
      exact ret _ _ _ z1 z2 z3 (congrArg Value.bool (by unfold Row.right; rw [hr1, hr2]; rfl))
    · rename (hbs row.body none true != row.leaves) = false => hr2
      rename Fr _ _ _ _ => F9
      rename News _ _ _ _ => N9
      refine Held.intro ?_
      try k_fold
      refine (CallZ.use (is_let_spec h2 h3 hz) (by k_asm) F9 (by k_asm) N9 (by k_asm) Xb Tb (by exact rfl) (by k_room) (by first | exact roomU (by assumption) (by first | decide | omega) | exact roomV (by assumption) (by first | decide | omega) | ((try simp only [units_in1, units_deeper, Around.mark_units, units_caller]); (try dsimp only [ktrTop]); omega)) ?_)
      rintro r9 h9 tk9 F8 N8 U8 rfl
      clear F9 N9
      try dsimp only
      try k_fold
      k_steps
      all_goals (
        rename Fr _ _ _ _ => F9
        rename News _ _ _ _ => N9
        obtain ⟨z1, z2, z3⟩ := back_Z (outer := outer) (env := envX cn cs L a ccd cl) rfl FG9 hNL F9.keep U8 (fun p hp => (N9 p hp).1)
        refine ret _ _ _ z1 z2 z3 (congrArg Value.bool ?_)
        unfold Row.right
        rw [hr1, hr2])
      · rename row.never = true => e1
        rw [e1]; cases chkOk row.body <;> rfl
      · rename row.never = false => e1
        rename row.leaves = true => e2
        rw [e1, e2]; cases chkOk row.body <;> rfl
      · rename row.never = false => e1
        rename row.leaves = false => e2
        rw [e1, e2]; cases chkOk row.body <;> cases row.goes <;> rfl
end
end
section
set_option tactic.hygienic false
theorem ln63 : True := by
  k_with_none
  (k_with "room" => first | exact roomE (by assumption) | exact roomD (by assumption) (by first | decide | omega) | ((try simp only [depth_mark, depth_under_make, depth_under_kw, depth_in1, depth_deeper, depth_caller]); (try dsimp only [ktrTop]); omega))
  (k_with "mem" => first | exact List.mem_cons_self | (refine List.mem_cons_of_mem _ ?_; first | ktr_member | k_mem))
  (k_with "enter" => (refine' code_def (by first | (k_asm) | fail "no") (by first | (k_asm) | fail "no") (by first | (k_asm) | fail "no") (by first | (k_asm) | fail "no") (by first | (k_asm) | fail "no") (by first | (exact rfl) | fail "no") (by first | (exact rfl) | fail "no") (by first | (first | exact rfl | assumption) | fail "no") (by first | (k_is) | fail "no") (by first | (k_is) | fail "no") (by first | (k_room) | fail "no") (by first | (first | exact BindsTo.of_eq rfl | exact binds_K (by k_in) rfl (by k_is) rfl rfl rfl) | fail "no") (by first | (exact locs rfl) | fail "no") ?_ (by first | (exact rfl) | fail "no") (by first | (exact rfl) | fail "no") (by first | (exact rfl) | fail "no") (by first | (decide) | fail "no"); k_whole; intro g' L' h' FG' F' N' B' X' T'; (try dsimp only); (try k_fold); (try (refine (let en9 := _; let ar9 := Around.deeper _ en9; (?_ : wpAny _ ar9 (execs _ en9) _ _ _))))))
  (k_with "exec For Name Name cons nil" => (k_here; (rename Fr _ _ _ _ => lF'); (with_unfolding_all refine' For_invVF lF' (by first | (exact rfl) | fail "no") (by first | (exact rfl) | fail "no") ?_; k_whole)))
  (k_with "exec For Name Call cons nil" => (k_here; (rename Fr _ _ _ _ => lF'); (with_unfolding_all refine' For_invVF lF' (by first | (exact rfl) | fail "no") (by first | (exact rfl) | fail "no") ?_; k_whole)))
  (k_with "pyIter ref" => (refine Held.out ?_))
  (k_with "subscriptTail" => (k_here; (with_reducible show wpAny _ _ (subscriptTail _ _ (Value.ref _) (Value.int 0 _)) _ _ _); k_dflt (refine' item0 (by first | (exact News.isTup (by k_asm) (by k_mem)) | fail "no") ?_ (by first | (with_unfolding_all rfl) | fail "no"); k_whole)))
  (k_with "compareOp NotIn str ref" => (k_here; (with_reducible show wpAny _ _ (compareOp CmpOp.NotIn (Value.str _ _) (Value.ref _)) _ _ _); (with_unfolding_all refine' notin_tuple_strs (by first | ((refine' tupK (by first | (k_in) | fail "no") (by first | (k_dflt k_is) | fail "no"))) | fail "no") (by first | (repeat constructor) | fail "no") ?_; k_whole)))
  (k_with "ite" => (refine ite_no (by first | ((simp only [beq_eq_false_iff_ne, ne_eq]; assumption)) | fail "no") ?_))
  (k_with "TurnPost" => (dsimp only [TurnPost]))
  trivial

/-- a call that reads the script too -/
noncomputable def CallS (w : World) (mean : ExcName → Option Value) (mg mb : Str → Option Value) (sc : Addr) (us : List Value) (need : Nat) (f : Addr) (vs : List Value) (news : List (Addr × Obj)) (Post : Value → List (Addr × Obj) → Prop) : Prop :=
  ∀ (dp un : Nat) (gd : Option (List Code)) (cn : Str) (cs : Scope) (a : Addr) (ccd : Value) (cl : List (Str × Addr)) (outer : List Env) (A₀ : Around) (base h₀ : Heap) (L : Addr) (m : Str → Option Value) (sH : Heap) (sG : Array GenState) (sD : Drawn) (sT : Nat) (sO : OsState) (Q E : Value → Shared → Prop),
    Below A₀ base outer h₀ → Fr h₀ L sH m → (hd.heap_1 w.params).In h₀ → News h₀ L sH news → Top hd.view_1 lo mean mg mb h₀ → h₀.IsList sc us.toArray → cs.kind = .function → dp + need < recursionLimit → un + 8 * need < cLine →
    (∀ r tl h' tk', Fr h₀ L h' m → News h₀ L h' (tl ++ news) → (∀ p ∈ tl, ∀ q ∈ news, q.1 < p.1) → Post r tl → Q r { heap := h', gens := sG, drawn := sD, toks := tk', os := sO }) →
    wpAny (model PySem.Challenge.rw_pf0071_01.prog w) (ktrTop dp un gd cn cs L a ccd cl outer) (call (.ref f) vs) Q E { heap := sH, gens := sG, drawn := sD, toks := sT, os := sO }
theorem ln64 : True := by
  (k_with "upd" => first | exact Upd.head (by assumption) | exact Upd.tail (by assumption) (Upd.head (by assumption)))
  trivial

theorem fm_in (x : Int) {t : Int} (h : 0 < t) : 0 ≤ x.fmod t ∧ x.fmod t < t := by
  rw [Int.fmod_eq_emod_of_nonneg x (Int.le_of_lt h)]
  exact ⟨Int.emod_nonneg x (Int.ne_of_gt h), Int.emod_lt_of_pos x h⟩
theorem bits_fm {x : Int} : Builtin.Int.intBits (x.fmod 2147483647) ≤ 64 := intBits_le_iff.mpr (by
  have h1 : (x.fmod 2147483647) = x % 2147483647 := Int.fmod_eq_emod_of_nonneg x (by decide)
  rw [h1]
  have h2 := Int.emod_nonneg x (show (2147483647 : Int) ≠ 0 by decide)
  have h3 := Int.emod_lt_of_pos x (show (0 : Int) < 2147483647 by decide)
  have : (2:Nat)^64 = 18446744073709551616 := by decide
  omega)
theorem mul_fm {prog : Program} {w : World} {A : Around} {E : Value → Shared → Prop} {s : Shared} {a x : Int} {t u : Tok} {Q : Value → Shared → Prop} (h : Q (.int (x.fmod 2147483647 * x.fmod 2147483647) s.toks) { s with toks := s.toks + 1 }) :
    wpAny (model prog w) A (binaryOp .Mult (.int ([a, x.fmod 2147483647].getD (Int.toNat 1) 0) t) (.int ([a, x.fmod 2147483647].getD (Int.toNat 1) 0) u)) Q E s :=
  PyProof.Rows.mul_int h (IntMulOk.of_left bits_fm)
theorem ln65 : True := by
  (k_with "binaryOp Mult int int" => (k_here; with_reducible refine mul_fm ?_))
  trivial

section
variable {w : World} {mean : ExcName → Option Value} {mg mb : Str → Option Value} {news : List (Addr × Obj)}
set_option maxRecDepth 100000 in
set_option maxHeartbeats 8000000 in
theorem law_pool_spec {sc : Addr} {us : List Value} {ns : List Int} (hI : IntsAre us ns) (hs : Spec.Shape.int.list.has (PyData.list (ns.map PyData.int)) = true) (hL : (PyData.list (ns.map PyData.int)).layable0 = true) {k : Int} {t : Tok} (hk0 : 0 ≤ k) (hk1 : k < 2) : CallS w mean mg mb sc us 3 156 [.ref sc, .int k t] news fun r tl => ∃ a i j ti tj n, r = .ref a ∧ tl = [(a, listOf #[.int i ti, .int j tj] n)] ∧ 0 ≤ j ∧ j < 2147483647 := by
  intro dp un gd cn cs a ccd cl outer A₀ base h₀ L m sH sG sD sT sO Q E B F X N T hS hk hdp hun ret
  refine wpAny_call ?_
  k_dflt ktr_enter
  rename Fr h₀ L _ m => FG9
  have hS' := FG9.lst hS
  try k_fold
  k_steps
  all_goals exact ret _ [(_, _)] _ _ (by assumption) (by assumption) (lt_one (by first | assumption | exact allLt_of (by assumption) | tbn_find)) ⟨_, _, _, _, _, _, rfl, rfl, (fm_in _ (by decide)).1, (fm_in _ (by decide)).2⟩
set_option maxRecDepth 100000 in
set_option maxHeartbeats 8000000 in
theorem law_take_spec {sr : Addr} {i j top : Int} {ti tj u : Tok} {n : Nat} (ht : 0 < top) (ht' : top < 100) (hj0 : 0 ≤ j) (hj1 : j < 2147483647) (hap : ∀ p ∈ news, p.1 ≠ sr) : CallM w mean mg mb 3 163 [.ref sr, .int top u] [(sr, listOf #[.int i ti, .int j tj] n)] news (fun r nx => ∃ f t i' j' ti' tj', r = .int f t ∧ 0 ≤ f ∧ f < top ∧ nx = [(sr, listOf #[.int i' ti', .int j' tj'] n)] ∧ 0 ≤ j' ∧ j' < 2147483647) False := by
  intro dp un gd cn cs a ccd cl outer A₀ base h₀ L m sH sG sD sT sO Q E B F X N T hk hdp hun ret exc
  refine wpAny_call ?_
  k_dflt ktr_enter
  have hU : ∀ o', Upd sr (listOf #[.int i ti, .int j tj] n) o' ([(sr, listOf #[.int i ti, .int j tj] n)] ++ news) ((sr, o') :: news) := fun o' => .head hap
  try k_fold
  k_steps
  · exact ret _ [(_, _)] _ _ (by assumption) (by assumption) ⟨_, _, _, _, _, _, rfl, (fm_in _ ht).1, (fm_in _ ht).2, rfl, hj0, hj1⟩
  · exact ret _ [(_, _)] _ _ (by assumption) (by assumption) ⟨_, _, _, _, _, _, rfl, (fm_in _ ht).1, (fm_in _ ht).2, rfl, (fm_in _ (by decide)).1, (fm_in _ (by decide)).2⟩
end
end
section
set_option tactic.hygienic false
theorem ln66 : True := by
  k_with_none
  (k_with "room" => first | exact roomE (by assumption) | exact roomD (by assumption) (by first | decide | omega) | ((try simp only [depth_mark, depth_under_make, depth_under_kw, depth_in1, depth_deeper, depth_caller]); (try dsimp only [ktrTop]); omega))
  (k_with "mem" => first | exact List.mem_cons_self | (refine List.mem_cons_of_mem _ ?_; first | ktr_member | k_mem))
  (k_with "enter" => (refine' code_def (by first | (k_asm) | fail "no") (by first | (k_asm) | fail "no") (by first | (k_asm) | fail "no") (by first | (k_asm) | fail "no") (by first | (k_asm) | fail "no") (by first | (exact rfl) | fail "no") (by first | (exact rfl) | fail "no") (by first | (first | exact rfl | assumption) | fail "no") (by first | (k_is) | fail "no") (by first | (k_is) | fail "no") (by first | (k_room) | fail "no") (by first | (first | exact BindsTo.of_eq rfl | exact binds_K (by k_in) rfl (by k_is) rfl rfl rfl) | fail "no") (by first | (exact locs rfl) | fail "no") ?_ (by first | (exact rfl) | fail "no") (by first | (exact rfl) | fail "no") (by first | (exact rfl) | fail "no") (by first | (decide) | fail "no"); k_whole; intro g' L' h' FG' F' N' B' X' T'; (try dsimp only); (try k_fold); (try (refine (let en9 := _; let ar9 := Around.deeper _ en9; (?_ : wpAny _ ar9 (execs _ en9) _ _ _))))))
  (k_with "exec For Name Name cons nil" => (k_here; (rename Fr _ _ _ _ => lF'); (with_unfolding_all refine' For_invVF lF' (by first | (exact rfl) | fail "no") (by first | (exact rfl) | fail "no") ?_; k_whole)))
  (k_with "exec For Name Call cons nil" => (k_here; (rename Fr _ _ _ _ => lF'); (with_unfolding_all refine' For_invVF lF' (by first | (exact rfl) | fail "no") (by first | (exact rfl) | fail "no") ?_; k_whole)))
  (k_with "pyIter ref" => (refine Held.out ?_))
  (k_with "subscriptTail" => (k_here; (with_reducible show wpAny _ _ (subscriptTail _ _ (Value.ref _) (Value.int 0 _)) _ _ _); k_dflt (refine' item0 (by first | (exact News.isTup (by k_asm) (by k_mem)) | fail "no") ?_ (by first | (with_unfolding_all rfl) | fail "no"); k_whole)))
  (k_with "compareOp NotIn str ref" => (k_here; (with_reducible show wpAny _ _ (compareOp CmpOp.NotIn (Value.str _ _) (Value.ref _)) _ _ _); (with_unfolding_all refine' notin_tuple_strs (by first | ((refine' tupK (by first | (k_in) | fail "no") (by first | (k_dflt k_is) | fail "no"))) | fail "no") (by first | (repeat constructor) | fail "no") ?_; k_whole)))
  (k_with "ite" => (refine ite_no (by first | ((simp only [beq_eq_false_iff_ne, ne_eq]; assumption)) | fail "no") ?_))
  (k_with "TurnPost" => (dsimp only [TurnPost]))
  trivial

section
variable {prog : Program} {w : World} {A : Around} {E : Value → Shared → Prop} {s : Shared}
theorem item_listAt {value slice : PySem.Expr} {l : Addr} {vs : List Value} {k : Int} {u : Tok} {v : Value} {Q : Value → Shared → Prop}
    (hl : s.heap.IsList l vs.toArray) (h0 : 0 ≤ k) (hk : k < 2 ^ 63) (hx : vs[k.toNat]? = some v) (h : Q v s)
    (hs : subscripted slice false (.ref l) (.int k u) = operate [.ref l, .int k u] (getItem (.ref l) (.int k u)) ) :
    wpAny (model prog w) A (subscriptTail value slice (.ref l) (.int k u)) Q E s :=
  tail_any hl.typeIs slot_list_getitem.lookup (wpAny_getItem_list hl h0 hk (by simpa using hx) h) hs
end
theorem ln67 : True := by
  (k_with "call ref" => (k_here; (with_reducible show wpAny _ _ (call (Value.ref 163) _) _ _ _); refine Held.out ?_))
  (k_with "call builtin:len" => (k_here; (with_reducible show wpAny _ _ (call (Value.builtin "len") [Value.ref _]) _ _ _); k_dflt (refine' PyProof.Rows.len_list (by first | (exact News.isList (by k_asm) (by k_mem)) | fail "no") (by first | ((rw [List.size_toArray]; omega)) | fail "no") ?_)))
  trivial

section
variable {w : World} {mean : ExcName → Option Value} {mg mb : Str → Option Value} {news : List (Addr × Obj)}
set_option maxRecDepth 100000 in
set_option maxHeartbeats 8000000 in
theorem law_one_spec {sr th : Addr} {i j : Int} {ti tj : Tok} {n n' : Nat} {vs : List Value} (hm : (th, listOf vs.toArray n') ∈ news) (hv : 0 < vs.length) (hv' : vs.length < 100) (hj0 : 0 ≤ j) (hj1 : j < 2147483647) (hap : ∀ p ∈ news, p.1 ≠ sr) : CallM w mean mg mb 5 170 [.ref sr, .ref th] [(sr, listOf #[.int i ti, .int j tj] n)] news (fun r nx => ∃ (f : Nat) (i' j' : Int) (ti' tj' : Tok), vs[f]? = some r ∧ nx = [(sr, listOf #[.int i' ti', .int j' tj'] n)] ∧ 0 ≤ j' ∧ j' < 2147483647) False := by
  intro dp un gd cn cs a ccd cl outer A₀ base h₀ L m sH sG sD sT sO Q E B F X N T hk hdp hun ret exc
  refine wpAny_call ?_
  k_dflt ktr_enter
  k_steps
  rename Fr _ _ _ _ => F9
  rename News _ _ _ _ => N9
  have hsz : vs.toArray.size = vs.length := List.size_toArray
  refine Held.intro ?_
  try k_fold
  refine (CallM.use (law_take_spec (by rw [hsz]; omega) (by rw [hsz]; omega) hj0 hj1 hap) (by k_asm) F9 (by k_asm) N9 (by k_asm) (by exact rfl) (by k_room) (by first | exact roomU (by assumption) (by first | decide | omega) | exact roomV (by assumption) (by first | decide | omega) | ((try simp only [units_in1, units_deeper, Around.mark_units, units_caller]); (try dsimp only [ktrTop]); omega)) ?_ ?_)
  · intro r9 nx9 h9 tk9 F8 N8 hP9
    try k_fold
    obtain ⟨f, t', i', j', ti', tj', rfl, hf0, hf1, rfl, hj0', hj1'⟩ := hP9
    clear F9 N9
    rw [hsz] at hf1
    have hfl : f.toNat < vs.length := by omega
    have hx : vs[f.toNat]? = some vs[f.toNat] := List.getElem?_eq_getElem hfl
    try dsimp only
    refine item_listAt (News.isList N8 (.tail _ hm)) hf0 (by omega) hx ?_ (by with_unfolding_all rfl)
    try k_fold
    k_steps
    exact ret _ [(_, _)] _ _ (by assumption) (by assumption) ⟨_, _, _, _, _, hx, rfl, hj0', hj1'⟩
  · exact fun h => h.elim
end
end
section
set_option tactic.hygienic false
theorem ln68 : True := by
  k_with_none
  (k_with "room" => first | exact roomE (by assumption) | exact roomD (by assumption) (by first | decide | omega) | ((try simp only [depth_mark, depth_under_make, depth_under_kw, depth_in1, depth_deeper, depth_caller]); (try dsimp only [ktrTop]); omega))
  (k_with "mem" => first | exact List.mem_cons_self | (refine List.mem_cons_of_mem _ ?_; first | ktr_member | k_mem))
  (k_with "enter" => (refine' code_def (by first | (k_asm) | fail "no") (by first | (k_asm) | fail "no") (by first | (k_asm) | fail "no") (by first | (k_asm) | fail "no") (by first | (k_asm) | fail "no") (by first | (exact rfl) | fail "no") (by first | (exact rfl) | fail "no") (by first | (first | exact rfl | assumption) | fail "no") (by first | (k_is) | fail "no") (by first | (k_is) | fail "no") (by first | (k_room) | fail "no") (by first | (first | exact BindsTo.of_eq rfl | exact binds_K (by k_in) rfl (by k_is) rfl rfl rfl) | fail "no") (by first | (exact locs rfl) | fail "no") ?_ (by first | (exact rfl) | fail "no") (by first | (exact rfl) | fail "no") (by first | (exact rfl) | fail "no") (by first | (decide) | fail "no"); k_whole; intro g' L' h' FG' F' N' B' X' T'; (try dsimp only); (try k_fold); (try (refine (let en9 := _; let ar9 := Around.deeper _ en9; (?_ : wpAny _ ar9 (execs _ en9) _ _ _))))))
  (k_with "exec For Name Name cons nil" => (k_here; (rename Fr _ _ _ _ => lF'); (with_unfolding_all refine' For_invVF lF' (by first | (exact rfl) | fail "no") (by first | (exact rfl) | fail "no") ?_; k_whole)))
  (k_with "exec For Name Call cons nil" => (k_here; (rename Fr _ _ _ _ => lF'); (with_unfolding_all refine' For_invVF lF' (by first | (exact rfl) | fail "no") (by first | (exact rfl) | fail "no") ?_; k_whole)))
  (k_with "pyIter ref" => (refine Held.out ?_))
  (k_with "subscriptTail" => (k_here; (with_reducible show wpAny _ _ (subscriptTail _ _ (Value.ref _) (Value.int 0 _)) _ _ _); k_dflt (refine' item0 (by first | (exact News.isTup (by k_asm) (by k_mem)) | fail "no") ?_ (by first | (with_unfolding_all rfl) | fail "no"); k_whole)))
  (k_with "compareOp NotIn str ref" => (k_here; (with_reducible show wpAny _ _ (compareOp CmpOp.NotIn (Value.str _ _) (Value.ref _)) _ _ _); (with_unfolding_all refine' notin_tuple_strs (by first | ((refine' tupK (by first | (k_in) | fail "no") (by first | (k_dflt k_is) | fail "no"))) | fail "no") (by first | (repeat constructor) | fail "no") ?_; k_whole)))
  (k_with "ite" => (refine ite_no (by first | ((simp only [beq_eq_false_iff_ne, ne_eq]; assumption)) | fail "no") ?_))
  (k_with "TurnPost" => (dsimp only [TurnPost]))
  trivial

/-! ## a comprehension whose turns call: over the frame and its ledger -/
/-- a mark that keeps a fact from the walk -/
noncomputable def Stash (P : Prop) : Prop := P
theorem fr_but {h₀ h h' : Heap} {L J : Addr} {m : Str → Option Value} (F : Fr h₀ L h m) (hk : ∀ b o, b ≠ J → h.get? b = some o → h'.get? b = some o) (hJ : h₀.get? J = none) (hLJ : L ≠ J) : Fr h₀ L h' m :=
  ⟨F.ns.at' fun o e => hk L o hLJ e, fun b o e => hk b o (by rintro rfl; rw [hJ] at e; cases e) (F.keep b o e), F.above⟩
theorem news_but {h₀ h h' : Heap} {L J : Addr} {news : List (Addr × Obj)} (N : News h₀ L h news) (hk : ∀ b o, b ≠ J → h.get? b = some o → h'.get? b = some o) (hJ : ∀ p ∈ news, p.1 ≠ J) : News h₀ L h' news :=
  fun p hp => ⟨hk _ _ (hJ p hp) (N p hp).1, (N p hp).2⟩
section
variable {prog : Program} {w : World} {A : Around} {E : Value → Shared → Prop} {env : Env}
noncomputable def CompTurnN (prog : Program) (w : World) (A : Around) (env : Env) (scope : Scope) (cl : List (Str × Addr)) (x : Str) (ifs : List PySem.Expr) (elt : PySem.Expr) (vs : List Value) (h₀ : Heap) (m : Str → Option Value) (news : List (Addr × Obj)) (G : Nat → List Value → List (Addr × Obj) → Prop) (s : Shared) : Prop :=
  ∀ C i v ys tl h tk own mC E', vs[i]? = some v → G i ys tl → OwnOff own ((tl ++ news).map (·.1)) → mC x = some v → Stash (Fr h₀ env.locals h m) → Stash (News h₀ env.locals h (own ++ (tl ++ news))) → Fr h₀ C h mC → News h₀ C h (tl ++ news) →
    wpAny (model prog w) A (testsOf ifs (compEnvC scope cl C env)) (fun ok s₄ => Held (∃ h₄ tk₄, s₄ = { s with heap := h₄, toks := tk₄ } ∧ Fr h₀ env.locals h₄ m ∧ News h₀ env.locals h₄ (own ++ (tl ++ news)) ∧ if ok = true then
      wpAny (model prog w) A (eval elt (compEnvC scope cl C env)) (fun y s₅ => Held (∃ h₅ tk₅ tl', s₅ = { s with heap := h₅, toks := tk₅ } ∧ Fr h₀ env.locals h₅ m ∧ News h₀ env.locals h₅ (own ++ (tl' ++ (tl ++ news))) ∧ OwnOff own (tl'.map (·.1)) ∧ G (i + 1) (ys ++ [y]) (tl' ++ tl))) E' s₄
      else G (i + 1) ys tl)) E' { s with heap := h, toks := tk }

theorem comp_loopN {elt iter : PySem.Expr} {x : Str} {px : Pos} {ifs : List PySem.Expr} {scope : Scope} {cl : List (Str × Addr)} {pos : Pos} {s : Shared} {I D C l : Addr} {vs : List Value} {P : Nat → Value → Prop} {St : Nat → Heap → Prop} {R : Result → Shared → Prop}
    {G : Nat → List Value → List (Addr × Obj) → Prop} {h₀ : Heap} {m : Str → Option Value} {news : List (Addr × Obj)} {ol : Obj}
    (W : Walks prog w A I [I, l] [I] vs.length P St) (hP : ∀ i v, P i v → vs[i]? = some v) (hlive : ∀ i h, St i h → ∃ o, h.get? I = some o)
    (hkind : scope.kind = .function) (hx : scope.names.lookup x = some .local) (hsz : vs.length ≤ sizeLine) (hm : (l, ol) ∈ news)
    (hI : h₀.get? I = none) (hC : h₀.get? C = none) (hD : h₀.get? D = none) (hCs : h₀.objs.size ≤ C) (hDC : D ≠ C) (hDI : D ≠ I) (hCI : C ≠ I) (hLI : env.locals ≠ I) (hLD : env.locals ≠ D) (hLC : env.locals ≠ C)
    (hap : ∀ p ∈ news, p.1 ≠ I ∧ p.1 ≠ D ∧ p.1 ≠ C) (hst : St 0 s.heap) (hacc : s.heap.PlainList D #[]) {mC : Str → Option Value} (hn : s.heap.Ns C mC) (F : Fr h₀ env.locals s.heap m) (N : News h₀ env.locals s.heap news) (g0 : G 0 [] [])
    (hq : CompTurnN prog w A env scope cl x ifs elt vs h₀ m news G s)
    (hR : ∀ h' tk ys tl k mC, h'.Ns C mC → G vs.length ys tl → Fr h₀ env.locals h' m → News h₀ env.locals h' (tl ++ news) → (∀ p ∈ tl ++ news, p.1 ≠ D ∧ p.1 ≠ C) → h'.get? D = some (listOf ys.toArray k) → R (.ok .next) { s with heap := h', toks := tk }) :
    codeAny (model prog w) A (.compLoop (.ListComp elt [⟨.Name x px, iter, ifs, 0⟩] scope pos) 0 (.ref I) (.ref D) (compEnvC scope cl C env)) R s := by
  have hxl : (compEnvC scope cl C env).kindOf x = some .local := lookup_relabel_local hx
  have hpl : ((compEnvC scope cl C env).scope.kind == .class || ((compEnvC scope cl C env).scope.kind == .module && (compEnvC scope cl C env).locals != (compEnvC scope cl C env).globals)) = false := by simp [compEnvC, relabel, hkind]
  have nw : ∀ b, b ≠ I → b ∉ [I] := fun b hb h => hb (List.mem_singleton.mp h)
  refine codeAny_compLoop_tests
    (fun k s' => ∃ h' tk i m' ys tl, s' = { s with heap := h', toks := tk } ∧ St i h' ∧ i ≤ vs.length ∧ ys.length ≤ i ∧ h'.PlainList D ys.toArray ∧ h'.Ns C m' ∧ G i ys tl ∧ k = vs.length + 1 - i ∧
      Fr h₀ env.locals h' m ∧ News h₀ env.locals h' (tl ++ news) ∧ (∀ p ∈ tl ++ news, p.1 ≠ I ∧ p.1 ≠ D ∧ p.1 ≠ C)) ?_ (vs.length + 1)
    ⟨s.heap, s.toks, 0, mC, [], [], rfl, hst, Nat.zero_le _, Nat.le_refl _, hacc, hn, g0, rfl, F, N, hap⟩
  rintro k s' ⟨H, tk, i, m', ys, tl, rfl, hst', hi, hyl, hacc', hn', hG, rfl, F', N', hap'⟩
  by_cases hlt : i < vs.length
  · refine W.item i _ _ _ hlt hst' fun v h₁ tk₁ hPv hst₁ hk₁ => ?_
    have hk₁' : ∀ b o, b ≠ I → H.get? b = some o → h₁.get? b = some o := fun b o hb e => hk₁ b o (nw b hb) e
    refine wpAny_assign_Name (wpAny_storeName_local hxl (hn'.at' fun o e => hk₁' _ o hCI e) (fun h₂ hn₂ hs₂ => ?_) hpl)
    have F₂ := fr_but (fr_but F' hk₁' hI hLI) (fun b o hb e => hs₂.extBut b o hb e) hC hLC
    have N₂ := news_but (news_but N' hk₁' fun p hp => (hap' p hp).1) (fun b o hb e => hs₂.extBut b o hb e) fun p hp => (hap' p hp).2.2
    have hst₂ : St (i + 1) h₂ := W.frame _ _ _ hst₁ fun b hb o e => hs₂.extBut b o (fun h => by
      have h : b = C := h
      rcases List.mem_cons.mp hb with q | q
      · exact hCI (h.symm.trans q)
      · exact (hap _ hm).2.2 ((List.mem_singleton.mp q).symm.trans h)) e
    have hacc₂ : h₂.PlainList D ys.toArray := hacc'.at fun o e => hs₂.extBut _ _ hDC (hk₁' _ o hDI e)
    obtain ⟨oI, hoI⟩ := hlive _ _ hst₂
    obtain ⟨nD, hoD⟩ := id hacc₂
    obtain ⟨oC, esC, epC, hoC, hrC⟩ := id hn₂
    have hown : News h₀ env.locals h₂ [(I, oI), (D, { cls := .type "list", data := .seq ys.toArray nD }), (C, oC)] := fun p hp => by
      rcases List.mem_cons.mp hp with rfl | hp
      · exact ⟨hoI, Ne.symm hLI, hI⟩
      rcases List.mem_cons.mp hp with rfl | hp
      · exact ⟨hoD, Ne.symm hLD, hD⟩
      · rw [List.mem_singleton.mp hp]; exact ⟨hoC, Ne.symm hLC, hC⟩
    have FC : Fr h₀ C h₂ _ := ⟨hn₂, F₂.keep, hCs⟩
    have T := hq C i v ys tl h₂ (tk₁ + 1) [(I, oI), (D, { cls := .type "list", data := .seq ys.toArray nD }), (C, oC)] _ (notedBy (model prog w) A (compEnvC scope cl C env) fun e s' => R (.error e) s') (hP i v hPv) hG
      (fun p hp b hb e => by
        obtain ⟨q, hq', rfl⟩ := List.mem_map.mp hb
        have hq3 := hap' q hq'
        rcases List.mem_cons.mp hp with rfl | hp
        · exact hq3.1 e.symm
        rcases List.mem_cons.mp hp with rfl | hp
        · exact hq3.2.1 e.symm
        · rw [List.mem_singleton.mp hp] at e; exact hq3.2.2 e.symm) (by simp) F₂ (fun p hp => (List.mem_append.mp hp).elim (hown p) (N₂ p)) FC
      (fun p hp => ⟨(N₂ p hp).1, (hap' p hp).2.2, (N₂ p hp).2.2⟩)
    refine wpAny_mono T (fun ok s₃ h₃ => ?_) fun _ _ e => e
    obtain ⟨h₃, tk₃, rfl, F₃, N₃, h₃'⟩ := h₃
    have stays : ∀ {h₃ : Heap} {nn : List (Addr × Obj)}, News h₀ env.locals h₃ ([(I, oI), (D, { cls := .type "list", data := .seq ys.toArray nD }), (C, oC)] ++ nn) → (l, ol) ∈ nn → St (i + 1) h₃ ∧ h₃.PlainList D ys.toArray ∧ h₃.Ns C _ := fun {h₃ nn} N₃ hm' =>
      ⟨W.frame _ h₂ _ hst₂ fun b hb o e => by
        rcases List.mem_cons.mp hb with q | q
        · rw [q, hoI] at e; cases e; rw [q]; exact (N₃ (I, oI) (.head _)).1
        · have q := List.mem_singleton.mp q
          have := (N₂ (l, ol) (List.mem_append.mpr (.inr hm))).1
          rw [q, this] at e; cases e; rw [q]
          exact (N₃ (l, ol) (List.mem_append.mpr (.inr hm'))).1, ⟨nD, (N₃ (D, _) (.tail _ (.head _))).1⟩, ⟨oC, esC, epC, (N₃ (C, oC) (.tail _ (.tail _ (.head _)))).1, hrC⟩⟩
    cases ok with
    | false =>
      simp only [Bool.false_eq_true, if_false] at h₃' ⊢
      obtain ⟨hst₃, hacc₃, hn₃⟩ := stays N₃ (List.mem_append.mpr (.inr hm))
      exact ⟨vs.length + 1 - (i + 1), by omega, h₃, tk₃, i + 1, _, ys, tl, rfl, hst₃, hlt, Nat.le_succ_of_le hyl, hacc₃, hn₃, h₃', rfl, F₃, fun p hp => N₃ p (List.mem_append.mpr (.inr hp)), hap'⟩
    | true =>
      simp only [if_true] at h₃' ⊢
      refine wpAny_mono h₃' (fun y s₄ h₄ => ?_) fun _ _ e => e
      obtain ⟨h₄, tk₄, tl', rfl, F₄, N₄, hoff, hG'⟩ := h₄
      obtain ⟨hst₄, hacc₄, hn₄⟩ := stays N₄ (List.mem_append.mpr (.inr (List.mem_append.mpr (.inr hm))))
      have hys : ys.toArray.size ≤ sizeLine := by rw [List.size_toArray]; omega
      refine wpAny_list_append_plain (hsz := hys) hacc₄ fun h₅ hl₅ hs₅ => ?_
      have up₅ : ∀ b o, b ≠ D → h₄.get? b = some o → h₅.get? b = some o := fun b o hb e => hs₅.extBut b o hb e
      have hap₅ : ∀ p ∈ (tl' ++ tl) ++ news, p.1 ≠ I ∧ p.1 ≠ D ∧ p.1 ≠ C := fun p hp => by
        rw [List.append_assoc] at hp
        rcases List.mem_append.mp hp with hp | hp
        · have hb : p.1 ∈ tl'.map (·.1) := List.mem_map_of_mem hp
          exact ⟨fun e => hoff (I, oI) (.head _) _ hb e.symm, fun e => hoff (D, _) (.tail _ (.head _)) _ hb e.symm, fun e => hoff (C, oC) (.tail _ (.tail _ (.head _))) _ hb e.symm⟩
        · exact hap' p hp
      refine ⟨vs.length + 1 - (i + 1), by omega, h₅, tk₄, i + 1, _, ys ++ [y], tl' ++ tl, rfl, ?_, hlt, by simpa using Nat.succ_le_succ hyl, by simpa using hl₅, hn₄.sameBut hs₅ (Ne.symm hDC), hG', rfl, fr_but F₄ up₅ hD hLD, ?_, hap₅⟩
      · refine W.frame _ _ h₅ hst₄ fun b hb o e => up₅ b o (fun h => ?_) e
        rcases List.mem_cons.mp hb with q | q
        · exact hDI (h.symm.trans q)
        · exact (hap _ hm).2.1 ((List.mem_singleton.mp q).symm.trans h)
      · refine news_but (fun p hp => N₄ p (List.mem_append.mpr (.inr ?_))) up₅ fun p hp => (hap₅ p hp).2.1
        rwa [List.append_assoc] at hp
  · have hin : i = vs.length := by omega
    subst hin
    refine W.done _ _ _ hst' fun h₁ tk₁ hk₁ => ?_
    have hk₁' : ∀ b o, b ≠ I → H.get? b = some o → h₁.get? b = some o := fun b o hb e => hk₁ b o (nw b hb) e
    obtain ⟨k, hk'⟩ := hacc'
    exact hR h₁ tk₁ ys tl k m' (hn'.at' fun o e => hk₁' _ o hCI e) hG (fr_but F' hk₁' hI hLI) (news_but N' hk₁' fun p hp => (hap' p hp).1) (fun p hp => (hap' p hp).2) (hk₁' _ _ hDI hk')

theorem comp_blockN {elt iter : PySem.Expr} {x : Str} {px : Pos} {ifs : List PySem.Expr} {scope : Scope} {cl : List (Str × Addr)} {pos : Pos} {s₁ : Shared} {l : Addr} {vs : List Value} {n : Nat} {RR : Value → Addr → Result → Shared → Prop}
    {G : Nat → List Value → List (Addr × Obj) → Prop} {h₀ : Heap} {m : Str → Option Value} {news : List (Addr × Obj)} (hh : A.handled = none) (hm : (l, listOf vs.toArray n) ∈ news) (hcell : ∀ y ∈ scope.names, y.2 ≠ .cell)
    (hkind : scope.kind = .function) (hx : scope.names.lookup x = some .local) (hsz : vs.length ≤ sizeLine) (F : Fr h₀ env.locals s₁.heap m) (N : News h₀ env.locals s₁.heap news) (g0 : G 0 [] [])
    (hq : CompTurnN prog w A env scope cl x ifs elt vs h₀ m news G s₁)
    (hRR : ∀ D C h' tk ys tl k mC, s₁.heap.objs.size ≤ D → C ≠ env.locals → D ≠ env.locals → h₀.get? C = none → h₀.get? D = none → D ≠ C → h'.Ns C mC → G vs.length ys tl → Fr h₀ env.locals h' m → News h₀ env.locals h' (tl ++ news) → (∀ p ∈ tl ++ news, p.1 ≠ D ∧ p.1 ≠ C) → h'.get? D = some (listOf ys.toArray k) → RR (.ref D) C (.ok .next) { s₁ with heap := h', toks := tk }) :
    wpAny (model prog w) A (pyIter (.ref l)) (fun it s₂ => wpAny (model prog w) A (newList []) (fun acc s₃ => wpAny (model prog w) A (newFunctionEnv scope env.globals cl [] env.qual none .none (some env)) (fun cenv s₄ =>
      codeAny (model prog w) A (.compStart (.ListComp elt [⟨.Name x px, iter, ifs, 0⟩] scope pos) 0 it acc { cenv with scope := relabel scope env }) (RR acc cenv.locals) s₄) E s₃) E s₂) E s₁ := by
  have Dl := N _ hm
  have hol : s₁.heap.get? l = some (listOf vs.toArray n) := Dl.1
  have hl : s₁.heap.IsList l vs.toArray := ⟨_, hol, rfl, n, rfl⟩
  have hlt : l < s₁.heap.objs.size := Heap.lt_size hol
  have hne : l ≠ s₁.heap.objs.size := Nat.ne_of_lt hlt
  have hL : env.locals < s₁.heap.objs.size := F.ns.lt
  have hh0 : h₀.objs.size ≤ s₁.heap.objs.size := Nat.le_trans F.above (Nat.le_of_lt hL)
  have f0 : ∀ a, s₁.heap.objs.size ≤ a → h₀.get? a = none := fun a ha => by
    cases e : h₀.get? a with
    | none => rfl
    | some o' => exact absurd (Heap.lt_size e) (Nat.not_lt.mpr (Nat.le_trans hh0 ha))
  have fN : ∀ a, s₁.heap.objs.size ≤ a → ∀ p ∈ news, p.1 ≠ a := fun a ha p hp e => absurd (Heap.lt_size (N p hp).1) (Nat.not_lt.mpr (e ▸ ha))
  refine wpAny_pyIter_list hl ?_
  have W := Walks.list (prog := prog) (w := w) hh s₁.heap.objs.size l hne vs.toArray
  rw [List.size_toArray] at W
  generalize hoI : ({ cls := .type "list_iterator", data := .fields #[.ref l, .int 0 0] } : Obj) = oI
  have hst : (s₁.heap.push oI).IsListIter s₁.heap.objs.size l 0 ∧ (s₁.heap.push oI).IsList l vs.toArray := by
    subst hoI
    exact ⟨⟨_, Heap.get?_push_size _ rfl, rfl, rfl⟩, hl.at fun o e => Heap.get?_push_of_some _ e⟩
  refine wpAny_newObj_type (wpAny_newFunctionEnv hcell (by intro y hy; simp at hy) (fun h₁ hns₁ hsb₁ => ?_) hkind)
  dsimp only at hns₁ hsb₁ ⊢
  have z1 : (s₁.heap.push oI).objs.size = s₁.heap.objs.size + 1 := Heap.size_push _ _
  have z2 : ((s₁.heap.push oI).push ({ cls := .type "list", dict := none, data := .seq ([] : List Value).toArray } : Obj)).objs.size = s₁.heap.objs.size + 2 := by rw [Heap.size_push, z1]
  have old : ∀ b o, b < s₁.heap.objs.size + 2 → ((s₁.heap.push oI).push ({ cls := .type "list", dict := none, data := .seq ([] : List Value).toArray } : Obj)).get? b = some o → h₁.get? b = some o := fun b o hb e =>
    hsb₁.extBut b o (by rw [z2]; exact Nat.ne_of_lt hb) (Heap.get?_push_of_some _ e)
  have keep : ∀ b o, s₁.heap.get? b = some o → h₁.get? b = some o := fun b o e => old b o (Nat.lt_add_right 2 (Heap.lt_size e)) (Heap.get?_push_of_some _ (Heap.get?_push_of_some _ e))
  have hacc : h₁.PlainList (s₁.heap.push oI).objs.size #[] := ⟨0, old _ _ (by rw [z1]; exact Nat.lt_succ_self _) (Heap.get?_push_size _ rfl)⟩
  have hst₁ : h₁.IsListIter s₁.heap.objs.size l 0 ∧ h₁.IsList l vs.toArray := W.frame 0 _ _ hst fun b hb o e => old b o (by
    rcases List.mem_cons.mp hb with q | q
    · rw [q]; exact Nat.lt_add_of_pos_right (by decide)
    · rw [List.mem_singleton.mp q]; exact Nat.lt_add_right 2 hlt) (Heap.get?_push_of_some _ e)
  have g1 : s₁.heap.objs.size ≤ (s₁.heap.push oI).objs.size := by rw [z1]; exact Nat.le_succ _
  have g2 : s₁.heap.objs.size ≤ ((s₁.heap.push oI).push ({ cls := .type "list", dict := none, data := .seq ([] : List Value).toArray } : Obj)).objs.size := by rw [z2]; exact Nat.le_add_right _ _
  have d12 : (s₁.heap.push oI).objs.size ≠ ((s₁.heap.push oI).push ({ cls := .type "list", dict := none, data := .seq ([] : List Value).toArray } : Obj)).objs.size := Nat.ne_of_lt (by rw [z1, z2]; exact Nat.lt_succ_self _)
  have F₁ := F.keeps keep
  have N₁ : News h₀ env.locals h₁ news := fun p hp => ⟨keep _ _ (N p hp).1, (N p hp).2⟩
  have loop : ∀ s₃ : Shared, s₃ = { s₁ with heap := h₁, toks := s₁.toks + ([] : List (Str × Value)).length } →
      codeAny (model prog w) A (.compLoop (.ListComp elt [⟨.Name x px, iter, ifs, 0⟩] scope pos) 0 (.ref s₁.heap.objs.size) (.ref (s₁.heap.push oI).objs.size) (compEnvC scope cl ((s₁.heap.push oI).push ({ cls := .type "list", dict := none, data := .seq ([] : List Value).toArray } : Obj)).objs.size env))
        (RR (.ref (s₁.heap.push oI).objs.size) ((s₁.heap.push oI).push ({ cls := .type "list", dict := none, data := .seq ([] : List Value).toArray } : Obj)).objs.size) s₃ := by
    rintro s₃ rfl
    refine comp_loopN W (fun i v h => by simpa using h) (fun i h st => by obtain ⟨⟨o, ho, _⟩, _⟩ := st; exact ⟨o, ho⟩) hkind hx hsz hm (f0 _ (Nat.le_refl _)) (f0 _ g2) (f0 _ g1) (Nat.le_trans hh0 g2) d12
      (Nat.ne_of_gt (by rw [z1]; exact Nat.lt_succ_self _)) (Nat.ne_of_gt (by rw [z2]; exact Nat.lt_add_of_pos_right (by decide))) (Nat.ne_of_lt hL) (Nat.ne_of_lt (Nat.lt_of_lt_of_le hL g1)) (Nat.ne_of_lt (Nat.lt_of_lt_of_le hL g2))
      (fun p hp => ⟨fN _ (Nat.le_refl _) p hp, fN _ g1 p hp, fN _ g2 p hp⟩) hst₁ hacc hns₁ F₁ N₁ g0 hq ?_
    intro h' tk ys tl k mC hn hG F' N' ha hD
    exact hRR _ _ h' tk ys tl k mC g1 (Nat.ne_of_gt (Nat.lt_of_lt_of_le hL g2)) (Nat.ne_of_gt (Nat.lt_of_lt_of_le hL g1)) (f0 _ g2) (f0 _ g1) d12 hn hG F' N' ha hD
  exact codeAny_compStart_list (loop _ rfl) (W.self 0 _ _ _ hst₁ (loop _ rfl))

theorem comp_evalN {s : Shared} {elt iter : PySem.Expr} {x : Str} {px : Pos} {ifs : List PySem.Expr} {scope : Scope} {cl : List (Str × Addr)} {pos : Pos} {Q : Value → Shared → Prop}
    (hh : A.handled = none) (hclos : closureFor scope env = pure cl) (hcell : ∀ y ∈ scope.names, y.2 ≠ .cell) (hkind : scope.kind = .function)
    (hnames : ∀ y ∈ scope.names, y.2 = .local → scope.names.lookup y.1 = some .local) (hx : scope.names.lookup x = some .local)
    (h : wpAny (model prog w) A (eval iter env) (fun xv s₁ => Held (∃ l vs n, ∃ G : Nat → List Value → List (Addr × Obj) → Prop, ∃ h₀ m news, xv = .ref l ∧ (l, listOf vs.toArray n) ∈ news ∧ vs.length ≤ sizeLine ∧ Fr h₀ env.locals s₁.heap m ∧ News h₀ env.locals s₁.heap news ∧ G 0 [] [] ∧
      CompTurnN prog w A env scope cl x ifs elt vs h₀ m news G s₁ ∧
      (∀ D h' tk ys tl k, s₁.heap.objs.size ≤ D → G vs.length ys tl → Fr h₀ env.locals h' m → News h₀ env.locals h' ((D, listOf ys.toArray k) :: (tl ++ news)) → Q (.ref D) { s₁ with heap := h', toks := tk }))) E s)
    (hs : ∀ x, foldedSetIterable iter env x = pure x) :
    wpAny (model prog w) A (eval (.ListComp elt [⟨.Name x px, iter, ifs, 0⟩] scope pos) env) Q E s := by
  rw [eval_ListComp]
  refine wpAny_comprehension_free (use := none) rfl hs hclos hkind hnames (wpAny_mono h (fun xv s₁ h₁ => ?_) fun _ _ e => e)
  obtain ⟨l, vs, n, G, h₀, m, news, rfl, hm, hsz, F, N, g0, hq, hQ⟩ := h₁
  refine comp_blockN (RR := fun acc C => compPost (model prog w) A E none Q acc C) hh hm hcell hkind hx hsz F N g0 hq ?_
  intro D C h' tk ys tl k mC hD hCL hDL hC0 hD0 hDC hn hG F' N' ha hDo
  refine ⟨mC, hn, fun h'' hs'' => ?_⟩
  have up : ∀ b o, b ≠ C → h'.get? b = some o → h''.get? b = some o := fun b o hb e => hs''.extBut b o hb e
  refine hQ D h'' tk ys tl k hD hG (fr_but F' up hC0 (Ne.symm hCL)) fun p hp => ?_
  rcases List.mem_cons.mp hp with rfl | hp
  · exact ⟨up _ _ hDC hDo, hDL, hD0⟩
  · exact ⟨up _ _ (ha p hp).2 (N' p hp).1, (N' p hp).2⟩

theorem comp_assignN {s : Shared} {elt iter : PySem.Expr} {x y : Str} {px py : Pos} {ifs : List PySem.Expr} {scope : Scope} {cl : List (Str × Addr)} {pos spos : Pos} {Q : Flow → Shared → Prop}
    (hsw : swapsWith (.ListComp elt [⟨.Name x px, iter, ifs, 0⟩] scope pos) (some (.Name y py)) spos.line env = pure true)
    (hh : A.handled = none) (hclos : closureFor scope env = pure cl) (hcell : ∀ y ∈ scope.names, y.2 ≠ .cell) (hkind : scope.kind = .function)
    (hnames : ∀ y ∈ scope.names, y.2 = .local → scope.names.lookup y.1 = some .local) (hx : scope.names.lookup x = some .local)
    (hy : env.kindOf y = some .local) (hp : (env.scope.kind == .class || (env.scope.kind == .module && env.locals != env.globals)) = false)
    (h : wpAny (model prog w) A (eval iter env) (fun xv s₁ => Held (∃ l vs n, ∃ G : Nat → List Value → List (Addr × Obj) → Prop, ∃ h₀ m news, xv = .ref l ∧ (l, listOf vs.toArray n) ∈ news ∧ vs.length ≤ sizeLine ∧ Fr h₀ env.locals s₁.heap m ∧ News h₀ env.locals s₁.heap news ∧ G 0 [] [] ∧
      CompTurnN prog w A env scope cl x ifs elt vs h₀ m news G s₁ ∧
      (∀ D h' tk ys tl k, s₁.heap.objs.size ≤ D → G vs.length ys tl → Fr h₀ env.locals h' (fun z => if z = y then some (.ref D) else m z) → News h₀ env.locals h' ((D, listOf ys.toArray k) :: (tl ++ news)) → Q .next { s₁ with heap := h', toks := tk }))) E s)
    (hs : ∀ x, foldedSetIterable iter env x = pure x) :
    wpAny (model prog w) A (exec (.Assign [.Name y py] (.ListComp elt [⟨.Name x px, iter, ifs, 0⟩] scope pos) spos) env) Q E s := by
  rw [exec_Assign_Name_used _ _ _ _ hsw]
  refine wpAny_bind (wpAny_standAt (wpAny_bind ?_))
  show wpAny _ A (do let _ ← comprehension (.ListComp elt [⟨.Name x px, iter, ifs, 0⟩] scope pos) scope env _ (newList []) false (eval iter env) (some (assign (.Name y py) env))) _ _ s
  refine wpAny_bind (wpAny_mono (wpAny_comprehension_free (use := some (assign (.Name y py) env)) (Q := fun _ s' => Q .next s') rfl hs hclos hkind hnames
    (wpAny_mono h (fun xv s₁ h₁ => ?_) fun _ _ e => e)) (fun _ s' hq => wpAny_pure (wpAny_pure hq)) fun _ _ e => e)
  obtain ⟨l, vs, n, G, h₀, m, news, rfl, hm, hsz, F, N, g0, hq, hQ⟩ := h₁
  refine comp_blockN (RR := fun acc C => compPost (model prog w) A E (some (assign (.Name y py) env)) (fun _ s' => Q .next s') acc C) hh hm hcell hkind hx hsz F N g0 hq ?_
  intro D C h' tk ys tl k mC hD hCL hDL hC0 hD0 hDC hn hG F' N' ha hDo
  show wpAny _ A (assign (.Name y py) env (.ref D)) _ _ _
  refine wpAny_assign_Name (wpAny_storeName_local hy F'.ns (fun h₂ hn₂ hs₂ => ?_) hp)
  refine ⟨mC, hn.sameBut hs₂ hCL, fun h₃ hs₃ => ?_⟩
  have up : ∀ b o, b ≠ C → h₂.get? b = some o → h₃.get? b = some o := fun b o hb e => hs₃.extBut b o hb e
  have up₂ : ∀ b o, b ≠ env.locals → h'.get? b = some o → h₂.get? b = some o := fun b o hb e => hs₂.extBut b o hb e
  refine hQ D h₃ _ ys tl k hD hG (fr_but (F'.set hn₂ hs₂) up hC0 (Ne.symm hCL)) fun p hp => ?_
  rcases List.mem_cons.mp hp with rfl | hp
  · exact ⟨up _ _ hDC (up₂ _ _ hDL hDo), hDL, hD0⟩
  · exact ⟨up _ _ (ha p hp).2 (up₂ _ _ (N' p hp).2.1 (N' p hp).1), (N' p hp).2⟩
end
end
section
set_option tactic.hygienic false
theorem ln69 : True := by
  k_with_none
  (k_with "room" => first | exact roomE (by assumption) | exact roomD (by assumption) (by first | decide | omega) | ((try simp only [depth_mark, depth_under_make, depth_under_kw, depth_in1, depth_deeper, depth_caller]); (try dsimp only [ktrTop]); omega))
  (k_with "mem" => first | exact List.mem_cons_self | (refine List.mem_cons_of_mem _ ?_; first | ktr_member | k_mem))
  (k_with "enter" => (refine' code_def (by first | (k_asm) | fail "no") (by first | (k_asm) | fail "no") (by first | (k_asm) | fail "no") (by first | (k_asm) | fail "no") (by first | (k_asm) | fail "no") (by first | (exact rfl) | fail "no") (by first | (exact rfl) | fail "no") (by first | (first | exact rfl | assumption) | fail "no") (by first | (k_is) | fail "no") (by first | (k_is) | fail "no") (by first | (k_room) | fail "no") (by first | (first | exact BindsTo.of_eq rfl | exact binds_K (by k_in) rfl (by k_is) rfl rfl rfl) | fail "no") (by first | (exact locs rfl) | fail "no") ?_ (by first | (exact rfl) | fail "no") (by first | (exact rfl) | fail "no") (by first | (exact rfl) | fail "no") (by first | (decide) | fail "no"); k_whole; intro g' L' h' FG' F' N' B' X' T'; (try dsimp only); (try k_fold); (try (refine (let en9 := _; let ar9 := Around.deeper _ en9; (?_ : wpAny _ ar9 (execs _ en9) _ _ _))))))
  (k_with "exec For Name Name cons nil" => (k_here; (rename Fr _ _ _ _ => lF'); (with_unfolding_all refine' For_invVF lF' (by first | (exact rfl) | fail "no") (by first | (exact rfl) | fail "no") ?_; k_whole)))
  (k_with "exec For Name Call cons nil" => (k_here; (rename Fr _ _ _ _ => lF'); (with_unfolding_all refine' For_invVF lF' (by first | (exact rfl) | fail "no") (by first | (exact rfl) | fail "no") ?_; k_whole)))
  (k_with "pyIter ref" => (refine Held.out ?_))
  (k_with "subscriptTail" => (k_here; (with_reducible show wpAny _ _ (subscriptTail _ _ (Value.ref _) (Value.int 0 _)) _ _ _); k_dflt (refine' item0 (by first | (exact News.isTup (by k_asm) (by k_mem)) | fail "no") ?_ (by first | (with_unfolding_all rfl) | fail "no"); k_whole)))
  (k_with "compareOp NotIn str ref" => (k_here; (with_reducible show wpAny _ _ (compareOp CmpOp.NotIn (Value.str _ _) (Value.ref _)) _ _ _); (with_unfolding_all refine' notin_tuple_strs (by first | ((refine' tupK (by first | (k_in) | fail "no") (by first | (k_dflt k_is) | fail "no"))) | fail "no") (by first | (repeat constructor) | fail "no") ?_; k_whole)))
  (k_with "ite" => (refine ite_no (by first | ((simp only [beq_eq_false_iff_ne, ne_eq]; assumption)) | fail "no") ?_))
  (k_with "TurnPost" => (dsimp only [TurnPost]))
  trivial

/-! ## a comprehension with two clauses, the second over what a turn of the first names -/
section
variable {prog : Program} {w : World} {A : Around} {E : Value → Shared → Prop} {R : Result → Shared → Prop} {s : Shared} {env : Env}
noncomputable abbrev two (x1 x2 : Str) (p1 p2 pe : Pos) (it1 it2 : PySem.Expr) (scope : Scope) (pos : Pos) : PySem.Expr := .ListComp (.Name x2 pe) [⟨.Name x1 p1, it1, [], 0⟩, ⟨.Name x2 p2, it2, [], 0⟩] scope pos
theorem turn_in (x1 x2 : Str) (p1 p2 pe : Pos) (it1 it2 : PySem.Expr) (scope : Scope) (pos : Pos) (it acc : Value) (env : Env) :
    compTurn (two x1 x2 p1 p2 pe it1 it2 scope pos) 1 it acc env = (standAt it2.pos >>= fun _ => pyNext it >>= fun r => match r with
      | none => pure (.done .next)
      | some v => letOwnedTupleGo (.Name x2 p2) it v >>= fun _ => assign (.Name x2 p2) env v >>= fun _ =>
        (eval (.Name x2 pe) env >>= fun x => call (.builtin "list.append") [acc, x] >>= fun _ => pure ()) >>= fun _ =>
          again (.compLoop (two x1 x2 p1 p2 pe it1 it2 scope pos) 1 it acc env)) := by rfl
theorem turn_out (x1 x2 : Str) (p1 p2 pe : Pos) (it1 it2 : PySem.Expr) (scope : Scope) (pos : Pos) (it acc : Value) (env : Env) :
    compTurn (two x1 x2 p1 p2 pe it1 it2 scope pos) 0 it acc env = (standAt it1.pos >>= fun _ => pyNext it >>= fun r => match r with
      | none => pure (.done .next)
      | some v => letOwnedTupleGo (.Name x1 p1) it v >>= fun _ => assign (.Name x1 p1) env v >>= fun _ =>
        eval it2 env >>= fun x => standAt it2.pos >>= fun _ => foldedSetIterable it2 env x >>= fun x => holding [x] (pyIter x) >>= fun j => runOwn (.compStart (two x1 x2 p1 p2 pe it1 it2 scope pos) 1 j acc env) env >>= fun _ =>
          again (.compLoop (two x1 x2 p1 p2 pe it1 it2 scope pos) 0 it acc env)) := by rfl

theorem in_loop {x1 x2 : Str} {p1 p2 pe : Pos} {it1 it2 : PySem.Expr} {scope : Scope} {pos : Pos} {J D l : Addr} {ys ws : List Value} {m : Str → Option Value}
    (hh : A.handled = none) (hk : env.scope.kind = .function) (hx : env.kindOf x2 = some .local) (hd : (x2 == ("__debug__" : Str)) = false)
    (hlJ : l ≠ J) (hDJ : D ≠ J) (hCJ : env.locals ≠ J) (hDC : D ≠ env.locals) (hlD : l ≠ D) (hlC : l ≠ env.locals) (hsz : ys.length + ws.length ≤ 1000)
    (hst : s.heap.IsListIter J l 0 ∧ s.heap.IsList l ws.toArray) (hacc : s.heap.PlainList D ys.toArray) (hn : s.heap.Ns env.locals m)
    (hR : ∀ h' tk m', h'.Ns env.locals m' → h'.PlainList D (ys ++ ws).toArray → (∀ b o, b ≠ J → b ≠ D → b ≠ env.locals → s.heap.get? b = some o → h'.get? b = some o) → R (.ok .next) { s with heap := h', toks := tk }) :
    codeAny (model prog w) A (.compLoop (two x1 x2 p1 p2 pe it1 it2 scope pos) 1 (.ref J) (.ref D) env) R s := by
  have hpl : (env.scope.kind == .class || (env.scope.kind == .module && env.locals != env.globals)) = false := by simp [hk]
  have W := Walks.list (prog := prog) (w := w) hh J l hlJ ws.toArray
  rw [List.size_toArray] at W
  have nw : ∀ b, b ≠ J → b ∉ [J] := fun b hb h => hb (List.mem_singleton.mp h)
  refine codeAny_loop rfl (fun k s' => ∃ h' tk i m', s' = { s with heap := h', toks := tk } ∧ (h'.IsListIter J l i ∧ h'.IsList l ws.toArray) ∧ i ≤ ws.length ∧ h'.PlainList D (ys ++ ws.take i).toArray ∧ h'.Ns env.locals m' ∧ k = ws.length + 1 - i ∧
      (∀ b o, b ≠ J → b ≠ D → b ≠ env.locals → s.heap.get? b = some o → h'.get? b = some o)) ?_ (ws.length + 1) ⟨s.heap, s.toks, 0, m, rfl, hst, Nat.zero_le _, by simpa using hacc, hn, rfl, fun _ _ _ _ _ e => e⟩
  rintro k s' ⟨H, tk, i, m', rfl, hst', hi, hacc', hn', rfl, keep⟩
  show wpAny _ A ((compTurn (two x1 x2 p1 p2 pe it1 it2 scope pos) 1 (.ref J) (.ref D) env).onRaise (fun x => do noteFrame x env; theTreesLotGoes x)) _ _ _
  refine wpAny_noted ?_
  rw [turn_in]
  refine wpAny_bind (wpAny_standAt (wpAny_bind ?_))
  by_cases hlt : i < ws.length
  · refine W.item i _ _ _ hlt hst' fun v h₁ tk₁ hPv hst₁ hk₁ => ?_
    have hv : ws[i]? = some v := by simpa using hPv
    refine wpAny_bind (wpAny_of_eq (rfl : letOwnedTupleGo (.Name x2 p2) (.ref J) v = pure ()) ?_)
    refine wpAny_bind (wpAny_assign_Name (wpAny_storeName_local hx (hn'.at' fun o e => hk₁ _ o (nw _ hCJ) e) (fun h₂ hn₂ hs₂ => ?_) hpl))
    have up₂ : ∀ b o, b ≠ env.locals → b ≠ J → H.get? b = some o → h₂.get? b = some o := fun b o hbC hbI e => hs₂.extBut b o hbC (hk₁ b o (nw b hbI) e)
    refine wpAny_bind (wpAny_bind (wpAny_Name (wpAny_loadName_local (v := v) hk hx hn₂ (by simp) ?_) hd))
    have hacc₂ : h₂.PlainList D (ys ++ ws.take i).toArray := hacc'.at fun o e => up₂ D o hDC hDJ e
    have hys : (ys ++ ws.take i).toArray.size ≤ sizeLine := by
      rw [List.size_toArray, List.length_append, List.length_take]
      have : (1000 : Nat) ≤ sizeLine := by decide
      omega
    refine wpAny_bind (wpAny_list_append_plain (hsz := hys) hacc₂ fun h₃ hl₃ hs₃ => wpAny_pure (wpAny_pure ⟨rfl, ws.length + 1 - (i + 1), by omega, h₃, _, i + 1, _, rfl, ?_, hlt, ?_, hn₂.sameBut hs₃ (Ne.symm hDC), rfl, fun b o h1 h2 h3 e => hs₃.extBut b o h2 (up₂ b o h3 h1 (keep b o h1 h2 h3 e))⟩))
    · refine W.frame (i + 1) h₁ h₃ hst₁ fun b hb o e => ?_
      rcases List.mem_cons.mp hb with q | q
      · exact hs₃.extBut b o (by rw [q]; exact Ne.symm hDJ) (hs₂.extBut b o (by rw [q]; exact Ne.symm hCJ) e)
      · have q := List.mem_singleton.mp q
        exact hs₃.extBut b o (by rw [q]; exact hlD) (hs₂.extBut b o (by rw [q]; exact hlC) e)
    · rw [List.take_add_one, hv, ← List.append_assoc]
      simpa using hl₃
  · have hin : i = ws.length := by omega
    subst hin
    refine W.done _ _ _ hst' fun h₁ tk₁ hk₁ => wpAny_pure ?_
    refine hR h₁ tk₁ m' (hn'.at' fun o e => hk₁ _ o (nw _ hCJ) e) ?_ fun b o h1 h2 h3 e => hk₁ b o (nw _ h1) (keep b o h1 h2 h3 e)
    rw [List.take_length] at hacc'
    exact hacc'.at fun o e => hk₁ _ o (nw _ hDJ) e

theorem in_start {x1 x2 : Str} {p1 p2 pe : Pos} {it1 it2 : PySem.Expr} {scope : Scope} {pos : Pos} {J : Addr} {acc : Value} {l : Addr}
    (hJ : s.heap.IsListIter J l 0)
    (h : codeAny (model prog w) A (.compLoop (two x1 x2 p1 p2 pe it1 it2 scope pos) 1 (.ref J) acc env) R s) :
    codeAny (model prog w) A (.compStart (two x1 x2 p1 p2 pe it1 it2 scope pos) 1 (.ref J) acc env) R s := by
  refine codeAny_of_tree ?_
  show wpAny _ _ ((compStart (two x1 x2 p1 p2 pe it1 it2 scope pos) 1 (.ref J) acc env).onRaise (fun x => do noteFrame x env; standAt theWindowsPlace)) _ _ s
  refine wpAny_notedAt ?_
  unfold compStart
  show wpAny _ _ (ask >>= _) _ _ s
  refine wpAny_bind (wpAny_askSetting (wpAny_ite ?_))
  split
  · first
      | exact wpAny_bind (wpAny_pure (wpAny_pure (And.intro rfl h)))
      | exact wpAny_pure (And.intro rfl h)
  · refine wpAny_bind (wpAny_rule ?_)
    show wpAny _ _ (standAt it2.pos >>= _) _ _ s
    exact wpAny_bind (wpAny_standAt (wpAny_bind (wpAny_pyIter_listiter hJ (wpAny_pure (And.intro rfl h)))))

/-- the second clause's source in a turn -/
noncomputable def SrcTurn (prog : Program) (w : World) (A : Around) (env : Env) (scope : Scope) (cl : List (Str × Addr)) (x1 : Str) (it2 : PySem.Expr) (vs : List Value) (wss : List (List Value)) (s₁ : Shared) : Prop :=
  ∀ (C : Addr) (i : Nat) (v : Value) (s₃ : Shared) (mC : Str → Option Value) (E' : Value → Shared → Prop), vs[i]? = some v → s₁.heap.objs.size ≤ C → s₃.heap.Ns C mC → mC x1 = some v → (∀ b o, s₁.heap.get? b = some o → s₃.heap.get? b = some o) →
    wpAny (model prog w) A (eval it2 (compEnvC scope cl C env)) (fun y s₄ => Held (Keeps s₃ s₄ ∧ ∃ (l : Addr) (ws : List Value) (n : Nat), y = .ref l ∧ s₁.heap.get? l = some (listOf ws.toArray n) ∧ wss[i]? = some ws ∧ ws.length ≤ 40)) E' s₃
theorem take_flat {α : Type} {wss : List (List α)} {i : Nat} {ws : List α} (h : wss[i]? = some ws) : (wss.take (i + 1)).flatten = (wss.take i).flatten ++ ws := by
  rw [List.take_add_one, h, List.flatten_append]; simp
theorem out_loop {x1 x2 : Str} {p1 p2 pe : Pos} {it1 it2 : PySem.Expr} {scope : Scope} {cl : List (Str × Addr)} {pos : Pos} {s₁ : Shared} {I D C l : Addr} {vs : List Value} {wss : List (List Value)} {m : Str → Option Value}
    (hh : A.handled = none) (hkind : scope.kind = .function) (hx1 : scope.names.lookup x1 = some .local) (hx2 : scope.names.lookup x2 = some .local) (hd : (x2 == ("__debug__" : Str)) = false) (hsz : vs.length ≤ 10)
    (hlI : l ≠ I) (hI : s₁.heap.get? I = none) (hC : s₁.heap.get? C = none) (hCs : s₁.heap.objs.size ≤ C) (hD : s₁.heap.get? D = none) (hDC : D ≠ C) (hDI : D ≠ I) (hCI : C ≠ I) (hlC : C ≠ l) (hlD : D ≠ l)
    (keep : ∀ b o, s₁.heap.get? b = some o → s.heap.get? b = some o) (hst : s.heap.IsListIter I l 0 ∧ s.heap.IsList l vs.toArray) (hacc : s.heap.PlainList D #[]) (hn : s.heap.Ns C m)
    (hfs : ∀ x, foldedSetIterable it2 (compEnvC scope cl C env) x = pure x)
    (hq : SrcTurn prog w A env scope cl x1 it2 vs wss s₁)
    (hR : ∀ h' tk mC, h'.Ns C mC → h'.PlainList D (wss.take vs.length).flatten.toArray → (∀ b o, s₁.heap.get? b = some o → h'.get? b = some o) → R (.ok .next) { s with heap := h', toks := tk }) :
    codeAny (model prog w) A (.compLoop (two x1 x2 p1 p2 pe it1 it2 scope pos) 0 (.ref I) (.ref D) (compEnvC scope cl C env)) R s := by
  have hxl1 : (compEnvC scope cl C env).kindOf x1 = some .local := lookup_relabel_local hx1
  have hxl2 : (compEnvC scope cl C env).kindOf x2 = some .local := lookup_relabel_local hx2
  have hkc : (compEnvC scope cl C env).scope.kind = .function := by simp [compEnvC, relabel, hkind]
  have hpl : ((compEnvC scope cl C env).scope.kind == .class || ((compEnvC scope cl C env).scope.kind == .module && (compEnvC scope cl C env).locals != (compEnvC scope cl C env).globals)) = false := by simp [compEnvC, relabel, hkind]
  have W := Walks.list (prog := prog) (w := w) hh I l hlI vs.toArray
  rw [List.size_toArray] at W
  have nw : ∀ b, b ≠ I → b ∉ [I] := fun b hb h => hb (List.mem_singleton.mp h)
  have hnI : ∀ b o, s₁.heap.get? b = some o → b ≠ I := fun b o e q => by rw [q, hI] at e; cases e
  have hnC : ∀ b o, s₁.heap.get? b = some o → b ≠ C := fun b o e q => by rw [q, hC] at e; cases e
  have hnD : ∀ b o, s₁.heap.get? b = some o → b ≠ D := fun b o e q => by rw [q, hD] at e; cases e
  refine codeAny_loop rfl (fun k s' => ∃ h' tk i m', s' = { s with heap := h', toks := tk } ∧ (h'.IsListIter I l i ∧ h'.IsList l vs.toArray) ∧ i ≤ vs.length ∧ h'.PlainList D (wss.take i).flatten.toArray ∧ (wss.take i).flatten.length ≤ i * 40 ∧ h'.Ns C m' ∧ k = vs.length + 1 - i ∧
      (∀ b o, s₁.heap.get? b = some o → h'.get? b = some o)) ?_ (vs.length + 1) ⟨s.heap, s.toks, 0, m, rfl, hst, Nat.zero_le _, by simpa using hacc, by simp, hn, rfl, keep⟩
  rintro k s' ⟨H, tk, i, m', rfl, hst', hi, hacc', hlen, hn', rfl, hk⟩
  show wpAny _ A ((compTurn (two x1 x2 p1 p2 pe it1 it2 scope pos) 0 (.ref I) (.ref D) (compEnvC scope cl C env)).onRaise (fun x => do noteFrame x (compEnvC scope cl C env); theTreesLotGoes x)) _ _ _
  refine wpAny_noted ?_
  rw [turn_out]
  refine wpAny_bind (wpAny_standAt (wpAny_bind ?_))
  by_cases hlt : i < vs.length
  · refine W.item i _ _ _ hlt hst' fun v h₁ tk₁ hPv hst₁ hk₁ => ?_
    have hv : vs[i]? = some v := by simpa using hPv
    refine wpAny_bind (wpAny_of_eq (rfl : letOwnedTupleGo (.Name x1 p1) (.ref I) v = pure ()) ?_)
    refine wpAny_bind (wpAny_assign_Name (wpAny_storeName_local hxl1 (hn'.at' fun o e => hk₁ _ o (nw _ hCI) e) (fun h₂ hn₂ hs₂ => ?_) hpl))
    have up₂ : ∀ b o, b ≠ C → b ≠ I → H.get? b = some o → h₂.get? b = some o := fun b o hbC hbI e => hs₂.extBut b o hbC (hk₁ b o (nw b hbI) e)
    have hst₂ : h₂.IsListIter I l (i + 1) ∧ h₂.IsList l vs.toArray := W.frame (i + 1) _ _ hst₁ fun b hb o e => hs₂.extBut b o (fun h => by
      have h : b = C := h
      rcases List.mem_cons.mp hb with q | q
      · exact hCI (h.symm.trans q)
      · exact hlC (h.symm.trans (List.mem_singleton.mp q))) e
    refine wpAny_bind (wpAny_mono (hq C i v { s with heap := h₂, toks := tk₁ + 1 } _ _ hv hCs hn₂ (by simp) (fun b o e => up₂ b o (hnC b o e) (hnI b o e) (hk b o e))) (fun y s₃ h₃ => ?_) fun _ _ e => e)
    obtain ⟨⟨h₃, tk₃, rfl, hk₃⟩, l2, ws, n2, rfl, hl2, hws, hws40⟩ := h₃
    refine wpAny_bind (wpAny_standAt (wpAny_bind (wpAny_of_eq (hfs _) (wpAny_bind (wpAny_holding ?_)))))
    have up₃ : ∀ b o, b ≠ C → b ≠ I → H.get? b = some o → h₃.get? b = some o := fun b o h1 h2 e => hk₃ b o (up₂ b o h1 h2 e)
    have k3 : ∀ b o, s₁.heap.get? b = some o → h₃.get? b = some o := fun b o e => up₃ b o (hnC b o e) (hnI b o e) (hk b o e)
    have hl3 : h₃.IsList l2 ws.toArray := ⟨_, k3 _ _ hl2, rfl, n2, rfl⟩
    refine wpAny_pyIter_list hl3 (wpAny_bind (wpAny_runOwn ?_))
    have hlt2 : l2 < h₃.objs.size := Heap.lt_size (k3 _ _ hl2)
    have hn₃ := hn₂.keeps hk₃
    have hacc₃ : h₃.PlainList D (wss.take i).flatten.toArray := hacc'.at fun o e => up₃ D o hDC hDI e
    have ltC : C < h₃.objs.size := hn₃.lt
    have ltD : D < h₃.objs.size := by obtain ⟨nn, e⟩ := hacc₃; exact Heap.lt_size e
    have hst₃ : h₃.IsListIter I l (i + 1) ∧ h₃.IsList l vs.toArray := W.frame (i + 1) _ _ hst₂ fun b _ o e => hk₃ b o e
    have ltI : I < h₃.objs.size := by obtain ⟨⟨o, e, _⟩, _⟩ := hst₃; exact Heap.lt_size e
    have hD4 : (h₃.push { cls := .type "list_iterator", data := .fields #[.ref l2, .int 0 0] }).PlainList D (wss.take i).flatten.toArray := hacc₃.at fun o e => Heap.get?_push_of_some _ e
    have hst4 : ∀ o : Obj, (h₃.push o).IsListIter I l (i + 1) ∧ (h₃.push o).IsList l vs.toArray := fun o => W.frame (i + 1) _ _ hst₃ fun b _ _ e => Heap.get?_push_of_some _ e
    have hJ : (h₃.push { cls := .type "list_iterator", data := .fields #[.ref l2, .int 0 0] }).IsListIter h₃.objs.size l2 0 := ⟨_, Heap.get?_push_size _ rfl, rfl, rfl⟩
    refine in_start hJ (in_loop (ys := (wss.take i).flatten) (ws := ws) (m := fun x => if x = x1 then some v else m' x) hh hkc hxl2 hd (Nat.ne_of_lt hlt2) (Nat.ne_of_lt ltD) (Nat.ne_of_lt ltC) hDC (fun e => hnD _ _ hl2 e) (fun e => hnC _ _ hl2 e) (by omega) ⟨hJ, hl3.at fun o e => Heap.get?_push_of_some _ e⟩ hD4 (hn₃.at' (h' := h₃.push { cls := .type "list_iterator", data := .fields #[.ref l2, .int 0 0] }) fun o e => Heap.get?_push_of_some _ e) ?_)
    intro h₅ tk₅ m₅ hn₅ hl₅ hk₅
    refine wpAny_pure ⟨rfl, vs.length + 1 - (i + 1), by omega, h₅, _, i + 1, _, rfl, ?_, hlt, ?_, ?_, hn₅, rfl, fun b o e => hk₅ b o (fun q => ?_) (hnD b o e) (hnC b o e) (Heap.get?_push_of_some _ (k3 b o e))⟩
    · refine W.frame (i + 1) _ h₅ (hst4 { cls := .type "list_iterator", data := .fields #[.ref l2, .int 0 0] }) fun b hb o e => ?_
      have hbI : b = I ∨ b = l := by simpa using hb
      refine hk₅ b o ?_ ?_ ?_ e
      · rcases hbI with q | q
        · rw [q]; exact Nat.ne_of_lt ltI
        · rw [q]; obtain ⟨_, ⟨o, e, _⟩⟩ := hst₃; exact Nat.ne_of_lt (Heap.lt_size e)
      · rcases hbI with q | q
        · rw [q]; exact Ne.symm hDI
        · rw [q]; exact Ne.symm hlD
      · rcases hbI with q | q
        · rw [q]; exact Ne.symm hCI
        · rw [q]; exact Ne.symm hlC
    · rw [take_flat hws]; exact hl₅
    · rw [take_flat hws, List.length_append]; omega
    · exact absurd (Heap.lt_size (k3 b o e)) (by rw [q]; exact Nat.lt_irrefl _)
  · have hin : i = vs.length := by omega
    subst hin
    refine W.done _ _ _ hst' fun h₁ tk₁ hk₁ => wpAny_pure ?_
    exact hR h₁ tk₁ m' (hn'.at' fun o e => hk₁ _ o (nw _ hCI) e) (hacc'.at fun o e => hk₁ _ o (nw _ hDI) e) fun b o e => hk₁ b o (nw _ (hnI b o e)) (hk b o e)

theorem comp2_assign {x1 x2 y : Str} {p1 p2 pe py : Pos} {it1 it2 : PySem.Expr} {scope : Scope} {cl : List (Str × Addr)} {pos spos : Pos} {Q : Flow → Shared → Prop}
    (hsw : swapsWith (two x1 x2 p1 p2 pe it1 it2 scope pos) (some (.Name y py)) spos.line env = pure true)
    (hh : A.handled = none) (hclos : closureFor scope env = pure cl) (hcell : ∀ y ∈ scope.names, y.2 ≠ .cell) (hkind : scope.kind = .function)
    (hnames : ∀ y ∈ scope.names, y.2 = .local → scope.names.lookup y.1 = some .local) (hx1 : scope.names.lookup x1 = some .local) (hx2 : scope.names.lookup x2 = some .local) (hd : (x2 == ("__debug__" : Str)) = false)
    (hy : env.kindOf y = some .local) (hp : (env.scope.kind == .class || (env.scope.kind == .module && env.locals != env.globals)) = false)
    (h : wpAny (model prog w) A (eval it1 env) (fun xv s₁ => Held (∃ l vs n wss h₀ m news, xv = .ref l ∧ (l, listOf vs.toArray n) ∈ news ∧ vs.length ≤ 10 ∧ Fr h₀ env.locals s₁.heap m ∧ News h₀ env.locals s₁.heap news ∧ SrcTurn prog w A env scope cl x1 it2 vs wss s₁ ∧
      (∀ D h' tk k, s₁.heap.objs.size ≤ D → Fr h₀ env.locals h' (fun z => if z = y then some (.ref D) else m z) → News h₀ env.locals h' ((D, listOf (wss.take vs.length).flatten.toArray k) :: news) → Q .next { s₁ with heap := h', toks := tk }))) E s)
    (hs : ∀ x, foldedSetIterable it1 env x = pure x) (hs2 : ∀ C x, foldedSetIterable it2 (compEnvC scope cl C env) x = pure x) :
    wpAny (model prog w) A (exec (.Assign [.Name y py] (two x1 x2 p1 p2 pe it1 it2 scope pos) spos) env) Q E s := by
  rw [exec_Assign_Name_used _ _ _ _ hsw]
  refine wpAny_bind (wpAny_standAt (wpAny_bind ?_))
  show wpAny _ A (do let _ ← comprehension (two x1 x2 p1 p2 pe it1 it2 scope pos) scope env _ (newList []) false (eval it1 env) (some (assign (.Name y py) env))) _ _ s
  refine wpAny_bind (wpAny_mono (wpAny_comprehension_free (use := some (assign (.Name y py) env)) (Q := fun _ s' => Q .next s') rfl hs hclos hkind hnames
    (wpAny_mono h (fun xv s₁ h₁ => ?_) fun _ _ e => e)) (fun _ s' hq => wpAny_pure (wpAny_pure hq)) fun _ _ e => e)
  obtain ⟨l, vs, n, wss, h₀, m, news, rfl, hm, hsz, F, N, hq, hQ⟩ := h₁
  have hol : s₁.heap.get? l = some (listOf vs.toArray n) := (N _ hm).1
  have hl : s₁.heap.IsList l vs.toArray := ⟨_, hol, rfl, n, rfl⟩
  have hlt : l < s₁.heap.objs.size := Heap.lt_size hol
  have hne : l ≠ s₁.heap.objs.size := Nat.ne_of_lt hlt
  have hL : env.locals < s₁.heap.objs.size := F.ns.lt
  have fresh : ∀ a, s₁.heap.objs.size ≤ a → s₁.heap.get? a = none := fun a ha => by
    cases e : s₁.heap.get? a with
    | none => rfl
    | some o' => exact absurd (Heap.lt_size e) (Nat.not_lt.mpr ha)
  have f0 : ∀ a, s₁.heap.objs.size ≤ a → h₀.get? a = none := fun a ha => by
    cases e : h₀.get? a with
    | none => rfl
    | some o' => exact absurd (Heap.lt_size (F.keep _ _ e)) (Nat.not_lt.mpr ha)
  refine wpAny_pyIter_list hl ?_
  have W := Walks.list (prog := prog) (w := w) hh s₁.heap.objs.size l hne vs.toArray
  rw [List.size_toArray] at W
  generalize hoI : ({ cls := .type "list_iterator", data := .fields #[.ref l, .int 0 0] } : Obj) = oI
  have hst : (s₁.heap.push oI).IsListIter s₁.heap.objs.size l 0 ∧ (s₁.heap.push oI).IsList l vs.toArray := by
    subst hoI
    exact ⟨⟨_, Heap.get?_push_size _ rfl, rfl, rfl⟩, hl.at fun o e => Heap.get?_push_of_some _ e⟩
  refine wpAny_newObj_type (wpAny_newFunctionEnv hcell (by intro y hy; simp at hy) (fun h₁ hns₁ hsb₁ => ?_) hkind)
  dsimp only at hns₁ hsb₁ ⊢
  have z1 : (s₁.heap.push oI).objs.size = s₁.heap.objs.size + 1 := Heap.size_push _ _
  have z2 : ((s₁.heap.push oI).push ({ cls := .type "list", dict := none, data := .seq ([] : List Value).toArray } : Obj)).objs.size = s₁.heap.objs.size + 2 := by rw [Heap.size_push, z1]
  have old : ∀ b o, b < s₁.heap.objs.size + 2 → ((s₁.heap.push oI).push ({ cls := .type "list", dict := none, data := .seq ([] : List Value).toArray } : Obj)).get? b = some o → h₁.get? b = some o := fun b o hb e =>
    hsb₁.extBut b o (by rw [z2]; exact Nat.ne_of_lt hb) (Heap.get?_push_of_some _ e)
  have keep : ∀ b o, s₁.heap.get? b = some o → h₁.get? b = some o := fun b o e => old b o (Nat.lt_add_right 2 (Heap.lt_size e)) (Heap.get?_push_of_some _ (Heap.get?_push_of_some _ e))
  have hacc : h₁.PlainList (s₁.heap.push oI).objs.size #[] := ⟨0, old _ _ (by rw [z1]; exact Nat.lt_succ_self _) (Heap.get?_push_size _ rfl)⟩
  have hst₁ : h₁.IsListIter s₁.heap.objs.size l 0 ∧ h₁.IsList l vs.toArray := W.frame 0 _ _ hst fun b hb o e => old b o (by
    rcases List.mem_cons.mp hb with q | q
    · rw [q]; exact Nat.lt_add_of_pos_right (by decide)
    · rw [List.mem_singleton.mp q]; exact Nat.lt_add_right 2 hlt) (Heap.get?_push_of_some _ e)
  have g1 : s₁.heap.objs.size ≤ (s₁.heap.push oI).objs.size := by rw [z1]; exact Nat.le_succ _
  have g2 : s₁.heap.objs.size ≤ ((s₁.heap.push oI).push ({ cls := .type "list", dict := none, data := .seq ([] : List Value).toArray } : Obj)).objs.size := by rw [z2]; exact Nat.le_add_right _ _
  have d12 : (s₁.heap.push oI).objs.size ≠ ((s₁.heap.push oI).push ({ cls := .type "list", dict := none, data := .seq ([] : List Value).toArray } : Obj)).objs.size := Nat.ne_of_lt (by rw [z1, z2]; exact Nat.lt_succ_self _)
  have loop : ∀ s₃ : Shared, s₃ = { s₁ with heap := h₁, toks := s₁.toks + ([] : List (Str × Value)).length } →
      codeAny (model prog w) A (.compLoop (two x1 x2 p1 p2 pe it1 it2 scope pos) 0 (.ref s₁.heap.objs.size) (.ref (s₁.heap.push oI).objs.size) (compEnvC scope cl ((s₁.heap.push oI).push ({ cls := .type "list", dict := none, data := .seq ([] : List Value).toArray } : Obj)).objs.size env))
        (compPost (model prog w) A E (some (assign (.Name y py) env)) (fun _ s' => Q .next s') (.ref (s₁.heap.push oI).objs.size) ((s₁.heap.push oI).push ({ cls := .type "list", dict := none, data := .seq ([] : List Value).toArray } : Obj)).objs.size) s₃ := by
    rintro s₃ rfl
    refine out_loop (s₁ := s₁) hh hkind hx1 hx2 hd hsz hne (fresh _ (Nat.le_refl _)) (fresh _ g2) g2 (fresh _ g1) d12
      (Nat.ne_of_gt (by rw [z1]; exact Nat.lt_succ_self _)) (Nat.ne_of_gt (by rw [z2]; exact Nat.lt_add_of_pos_right (by decide))) (Nat.ne_of_gt (Nat.lt_of_lt_of_le hlt g2)) (Nat.ne_of_gt (Nat.lt_of_lt_of_le hlt g1)) keep hst₁ hacc hns₁ (hs2 _) hq ?_
    intro h' tk mC hn ⟨k, hDo⟩ hk
    generalize ((s₁.heap.push oI).push ({ cls := .type "list", dict := none, data := .seq ([] : List Value).toArray } : Obj)).objs.size = C at *
    generalize (s₁.heap.push oI).objs.size = D at *
    have hLC : env.locals ≠ C := Nat.ne_of_lt (Nat.lt_of_lt_of_le hL g2)
    have hLD : env.locals ≠ D := Nat.ne_of_lt (Nat.lt_of_lt_of_le hL g1)
    have F' := F.keeps hk
    show wpAny _ A (assign (.Name y py) env (.ref D)) _ _ _
    refine wpAny_assign_Name (wpAny_storeName_local hy F'.ns (fun h₂ hn₂ hs₂ => ?_) hp)
    refine ⟨mC, hn.sameBut hs₂ (Ne.symm hLC), fun h₃ hs₃ => ?_⟩
    have up : ∀ b o, b ≠ C → h₂.get? b = some o → h₃.get? b = some o := fun b o hb e => hs₃.extBut b o hb e
    have up₂ : ∀ b o, b ≠ env.locals → h'.get? b = some o → h₂.get? b = some o := fun b o hb e => hs₂.extBut b o hb e
    refine hQ D h₃ _ k g1 (fr_but (F'.set hn₂ hs₂) up (f0 _ g2) hLC) fun p hp => ?_
    rcases List.mem_cons.mp hp with rfl | hp
    · exact ⟨up _ _ d12 (up₂ _ _ (Ne.symm hLD) hDo), Ne.symm hLD, f0 _ g1⟩
    · refine ⟨up _ _ (fun e => ?_) (up₂ _ _ (N p hp).2.1 (hk _ _ (N p hp).1)), (N p hp).2⟩
      exact absurd (Heap.lt_size (N p hp).1) (by rw [e]; exact Nat.not_lt.mpr g2)
  exact codeAny_compStart_list (loop _ rfl) (W.self 0 _ _ _ hst₁ (loop _ rfl))
end
end
section
set_option tactic.hygienic false
theorem ln70 : True := by
  k_with_none
  (k_with "room" => first | exact roomE (by assumption) | exact roomD (by assumption) (by first | decide | omega) | ((try simp only [depth_mark, depth_under_make, depth_under_kw, depth_in1, depth_deeper, depth_caller]); (try dsimp only [ktrTop]); omega))
  (k_with "mem" => first | exact List.mem_cons_self | (refine List.mem_cons_of_mem _ ?_; first | ktr_member | k_mem))
  (k_with "enter" => (refine' code_def (by first | (k_asm) | fail "no") (by first | (k_asm) | fail "no") (by first | (k_asm) | fail "no") (by first | (k_asm) | fail "no") (by first | (k_asm) | fail "no") (by first | (exact rfl) | fail "no") (by first | (exact rfl) | fail "no") (by first | (first | exact rfl | assumption) | fail "no") (by first | (k_is) | fail "no") (by first | (k_is) | fail "no") (by first | (k_room) | fail "no") (by first | (first | exact BindsTo.of_eq rfl | exact binds_K (by k_in) rfl (by k_is) rfl rfl rfl) | fail "no") (by first | (exact locs rfl) | fail "no") ?_ (by first | (exact rfl) | fail "no") (by first | (exact rfl) | fail "no") (by first | (exact rfl) | fail "no") (by first | (decide) | fail "no"); k_whole; intro g' L' h' FG' F' N' B' X' T'; (try dsimp only); (try k_fold); (try (refine (let en9 := _; let ar9 := Around.deeper _ en9; (?_ : wpAny _ ar9 (execs _ en9) _ _ _))))))
  (k_with "exec For Name Name cons nil" => (k_here; (rename Fr _ _ _ _ => lF'); (with_unfolding_all refine' For_invVF lF' (by first | (exact rfl) | fail "no") (by first | (exact rfl) | fail "no") ?_; k_whole)))
  (k_with "exec For Name Call cons nil" => (k_here; (rename Fr _ _ _ _ => lF'); (with_unfolding_all refine' For_invVF lF' (by first | (exact rfl) | fail "no") (by first | (exact rfl) | fail "no") ?_; k_whole)))
  (k_with "pyIter ref" => (refine Held.out ?_))
  (k_with "subscriptTail" => (k_here; (with_reducible show wpAny _ _ (subscriptTail _ _ (Value.ref _) (Value.int 0 _)) _ _ _); k_dflt (refine' item0 (by first | (exact News.isTup (by k_asm) (by k_mem)) | fail "no") ?_ (by first | (with_unfolding_all rfl) | fail "no"); k_whole)))
  (k_with "compareOp NotIn str ref" => (k_here; (with_reducible show wpAny _ _ (compareOp CmpOp.NotIn (Value.str _ _) (Value.ref _)) _ _ _); (with_unfolding_all refine' notin_tuple_strs (by first | ((refine' tupK (by first | (k_in) | fail "no") (by first | (k_dflt k_is) | fail "no"))) | fail "no") (by first | (repeat constructor) | fail "no") ?_; k_whole)))
  (k_with "ite" => (refine ite_no (by first | ((simp only [beq_eq_false_iff_ne, ne_eq]; assumption)) | fail "no") ?_))
  (k_with "TurnPost" => (dsimp only [TurnPost]))
  trivial

/-! ## set(..) of a list of strs, and its length -/
noncomputable def dedStep (σ : List Str) (x : Str) : List Str := if σ.any (· == x) then σ else σ ++ [x]
noncomputable def ded (xs : List Str) : List Str := xs.foldl dedStep []
theorem ded_snoc (xs : List Str) (x : Str) : ded (xs ++ [x]) = dedStep (ded xs) x := by unfold ded; rw [List.foldl_append]; rfl
theorem dedStep_any (σ : List Str) (v k : Str) : (dedStep σ v).any (· == k) = (σ.any (· == k) || decide (k = v)) := by
  unfold dedStep
  by_cases h : σ.any (· == v) = true
  · rw [if_pos h]
    by_cases e : k = v
    · subst e; rw [h]; simp
    · simp [e]
  · rw [if_neg h, List.any_append]
    by_cases e : k = v
    · subst e; simp
    · have hb : (v == k) = false := by simpa [beq_iff_eq] using (fun h' : v = k => e h'.symm)
      simp [hb, e]
theorem dedStep_length (σ : List Str) (v : Str) : (dedStep σ v).length = if σ.any (· == v) then σ.length else σ.length + 1 := by
  unfold dedStep; split <;> simp
theorem ded_le (xs : List Str) : (ded xs).length ≤ xs.length := by
  suffices h : ∀ (xs σ : List Str), (xs.foldl dedStep σ).length ≤ σ.length + xs.length by have := h xs []; simpa [ded] using this
  intro xs
  induction xs with
  | nil => intro σ; simp
  | cons x xs ih =>
    intro σ
    refine Nat.le_trans (ih _) ?_
    rw [dedStep_length, List.length_cons]
    split <;> omega
/-- the values are these texts -/
inductive StrsAre : List Value → List Str → Prop
  | nil : StrsAre [] []
  | cons {x : Str} {t : Tok} {vs : List Value} {xs : List Str} : StrsAre vs xs → StrsAre (.str x t :: vs) (x :: xs)
theorem StrsAre.length {vs : List Value} {xs : List Str} (h : StrsAre vs xs) : vs.length = xs.length := by
  induction h with
  | nil => rfl
  | cons _ ih => exact congrArg Nat.succ ih
theorem StrsAre.at {vs : List Value} {xs : List Str} {i : Nat} {v : Value} (h : StrsAre vs xs) (e : vs[i]? = some v) : ∃ x t, v = .str x t ∧ xs[i]? = some x := by
  induction h generalizing i with
  | nil => rw [List.getElem?_nil] at e; cases e
  | cons _ ih =>
    cases i with
    | zero => cases e; exact ⟨_, _, rfl, rfl⟩
    | succ i => exact ih e
theorem StrsAre.append {vs us : List Value} {xs ys : List Str} (h : StrsAre vs xs) (k : StrsAre us ys) : StrsAre (vs ++ us) (xs ++ ys) := by
  induction h with
  | nil => exact k
  | cons _ ih => exact .cons ih
section
variable {prog : Program} {w : World} {A : Around} {E : Value → Shared → Prop} {R : Result → Shared → Prop}
theorem setOf_kept {h h' : Heap} {a : Addr} {S : Str → Bool} {n : Nat} (hS : h.SetOf (strKind prog w) a S n) (hk : ∀ o, h.get? a = some o → h'.get? a = some o) : h'.SetOf (strKind prog w) a S n := by
  obtain ⟨o, es, ep, tb, ho, rest⟩ := hS
  exact ⟨o, es, ep, tb, hk _ ho, rest⟩
theorem set_loop (hh : A.handled = none) {I S l : Addr} {vs : List Value} {xs : List Str} (hv : StrsAre vs xs) (hb : xs.length + 1 < scanBound) (hlI : l ≠ I) (hSI : S ≠ I) (hSl : S ≠ l) : ∀ (k i : Nat) (s : Shared), vs.length - i = k → i ≤ vs.length → (s.heap.IsListIter I l i ∧ s.heap.IsList l vs.toArray) →
    s.heap.SetOf (strKind prog w) S (fun y => (ded (xs.take i)).any (· == y)) (ded (xs.take i)).length →
    (∀ h' tk, (∀ b o, b ≠ I → b ≠ S → s.heap.get? b = some o → h'.get? b = some o) → h'.SetOf (strKind prog w) S (fun y => (ded xs).any (· == y)) (ded xs).length → R (.ok (.ret .none)) { s with heap := h', toks := tk }) →
    codeAny (model prog w) A (.builtin "set.update.loop" ⟨[.ref S, .ref I], []⟩) R s := by
  have W := Walks.list (prog := prog) (w := w) (A := A.in1) (by simp [hh]) I l hlI vs.toArray
  rw [List.size_toArray] at W
  have nw : ∀ b, b ≠ I → b ∉ [I] := fun b hb h => hb (List.mem_singleton.mp h)
  intro k
  induction k with
  | zero =>
    intro i s hk hi hst hS hR
    have hin : i = vs.length := by omega
    subst hin
    refine codeAny_builtin F.entry_set_update_loop ?_
    rw [Around.under_plainId F.plain_set_update_loop _]
    show wpAny _ A.in1 (pyNext (.ref I) >>= _) _ _ s
    refine wpAny_bind (W.done s _ _ hst fun h' tk hk => ?_)
    show wpAny _ A.in1 (ret Value.none) _ _ _
    refine wpAny_pure (hR h' tk (fun b o h1 _ e => hk b o (nw b h1) e) ?_)
    rw [hv.length, List.take_length] at hS
    exact setOf_kept hS fun o e => hk _ o (nw _ hSI) e
  | succ k ih =>
    intro i s hk hi hst hS hR
    have hlt : i < vs.length := by omega
    refine codeAny_builtin F.entry_set_update_loop ?_
    rw [Around.under_plainId F.plain_set_update_loop _]
    show wpAny _ A.in1 (pyNext (.ref I) >>= _) _ _ s
    refine wpAny_bind (W.item i s _ _ hlt hst fun v h₁ tk₁ hP hst₁ hk₁ => ?_)
    obtain ⟨x, t, rfl, hx⟩ := hv.at (by simpa using hP)
    have hS₁ : h₁.SetOf (strKind prog w) S (fun y => (ded (xs.take i)).any (· == y)) (ded (xs.take i)).length := setOf_kept hS fun o e => hk₁ _ o (nw _ hSI) e
    show wpAny _ A.in1 (holding [Value.str x t] (setAdd S (.str x t)) >>= _) _ _ _
    refine wpAny_bind (wpAny_holding ?_)
    unfold setAdd
    refine wpAny_holding ?_
    refine wpAny_bind ((strKind prog w).pyHash (k := x) (strKind_is _ _ _ _) ?_)
    have hroom : (ded (xs.take i)).length + 1 < scanBound := by
      have h1 := ded_le (xs.take i)
      rw [List.length_take] at h1
      omega
    refine wpAny_setAddHashed_of (knd := strKind prog w) (strKind_is _ _ _ _) rfl hS₁ hroom fun h₂ hsb hS₂ => ?_
    have e1 : ded (xs.take (i + 1)) = dedStep (ded (xs.take i)) x := by rw [List.take_add_one, hx]; exact ded_snoc _ _
    have hS₃ : h₂.SetOf (strKind prog w) S (fun y => (ded (xs.take (i + 1))).any (· == y)) (ded (xs.take (i + 1))).length :=
      SetOf_congr hS₂ (fun y => by rw [e1, dedStep_any]) (by rw [e1, dedStep_length])
    have up : ∀ b o, b ≠ S → h₁.get? b = some o → h₂.get? b = some o := fun b o hb e => (hsb.2 b hb).trans e
    refine wpAny_pure ⟨plainId_quiet F.plain_set_update_loop _, ih (i + 1) _ (by omega) hlt (W.frame (i + 1) h₁ h₂ hst₁ fun b hb o e => up b o ?_ e) hS₃ fun h' tk hk' hS' => hR h' tk (fun b o h1 h2 e => hk' b o h1 h2 (up b o h2 (hk₁ b o (nw b h1) e))) hS'⟩
    rcases List.mem_cons.mp hb with q | q
    · rw [q]; exact Ne.symm hSI
    · rw [List.mem_singleton.mp q]; exact Ne.symm hSl

set_option maxRecDepth 100000 in
set_option maxHeartbeats 3200000 in
theorem call_set_strs {E : Value → Shared → Prop} {s : Shared} {l : Addr} {vs : List Value} {xs : List Str} {Q : Value → Shared → Prop}
    (hh : A.handled = none) (hl : s.heap.IsList l vs.toArray) (hv : StrsAre vs xs) (hb : xs.length + 1 < scanBound)
    (h : ∀ h' tk, h'.SetOf (strKind prog w) s.heap.objs.size (fun y => (ded xs).any (· == y)) (ded xs).length → (∀ b o, s.heap.get? b = some o → h'.get? b = some o) → Q (.ref s.heap.objs.size) { s with heap := h', toks := tk }) :
    wpAny (model prog w) A (call (.type "set") [.ref l]) Q E s := by
  obtain ⟨cc, ctl, hmro⟩ := F.called_set.mro
  have hmade := F.called_set.made
  have hsub := F.called_set.sub
  refine wpAny_call (codeAny_of_tree ?_)
  show wpAny _ _ (callAny (.type "set") _) _ _ _
  refine wpAny_pure ⟨Code.quiet_builtin _ (by decide +kernel), codeAny_builtin F.entry_type_call ?_⟩
  rw [Around.under_plain (weight_type_call_type "set" [.ref l] []) rfl]
  have t1 := F.called_set.notType
  have t2 := F.called_set.canCreate
  have t3 := F.typeCall_set_1 (.ref l)
  repeat (any_goals (first | assumption | wp_step))
  let made (led : Bool) : Obj := { cls := .type "set", dict := none, data := .set #[] 0 (.fresh 0 0 led) }
  refine codeAny_mono (code_set_new_1 (.ref l) (E := E) (Q₁ := fun obj s₁ => ∃ led : Bool, obj = .ref s.heap.objs.size ∧ s₁ = { s with heap := s.heap.push (made led) }) fun led => ⟨led, rfl, rfl⟩) fun r s₁ hr => ?_
  cases r with
  | error e => exact hr
  | ok fl =>
    cases fl with
    | ret obj =>
      obtain ⟨led, rfl, rfl⟩ := hr
      have hS : (s.heap.push (made led)).get? s.heap.objs.size = some (made led) := Heap.get?_push_size _ rfl
      have hT : Shared.TypeIs { s with heap := s.heap.push (made led) } (.ref s.heap.objs.size) "set" := ⟨_, hS, rfl⟩
      have hli := F.called_set.init.lookup
      have hbi := F.called_set.init.bind (.ref s.heap.objs.size)
      repeat (any_goals (first | assumption | wp_step))
      refine codeAny_mono (codeAny_call_builtin (R := wants (fun r s₂ => r = .none ∧ ∃ h' tk, s₂ = { s with heap := h', toks := tk } ∧
          h'.SetOf (strKind prog w) s.heap.objs.size (fun y => (ded xs).any (· == y)) (ded xs).length ∧ (∀ b o, s.heap.get? b = some o → h'.get? b = some o)) E) F.called_set.init.plain F.entry_set_init (check_set_init_1 hT ?_)) fun r₂ s₂ hr₂ => ?_
      · obtain ⟨ol, hol, hcl, nl, hdl⟩ := hl
        obtain ⟨ocls, odict, odata, oslots⟩ := ol
        simp only at hcl hdl
        subst hcl; subst hdl
        have hol' : (s.heap.push (made led)).get? l = some { cls := .type "list", dict := odict, data := .seq vs.toArray nl, slots := oslots } := Heap.get?_push_of_some _ hol
        have q1 := F.sub_list_set
        have q2 := F.sub_list_frozenset
        have q3 : (Value.type "list" == Value.type "dict") = false := by decide
        have hl1 : (s.heap.push (made led)).IsList l vs.toArray := ⟨_, hol', rfl, nl, rfl⟩
        unfold Builtin.«set.__init__» noKeywords Builtin.Frozenset.updateFrom
        generalize hPI : pyIter = PI
        wp_walk
        subst hPI
        refine wpAny_pyIter_list hl1 ?_
        refine wpAny_bind (wpAny_runValue ?_)
        have hlS : l < s.heap.objs.size := Heap.lt_size hol
        have z : (s.heap.push (made led)).objs.size = s.heap.objs.size + 1 := Heap.size_push _ _
        have hlI : l ≠ (s.heap.push (made led)).objs.size := by rw [z]; exact Nat.ne_of_lt (Nat.lt_succ_of_lt hlS)
        have hSI : s.heap.objs.size ≠ (s.heap.push (made led)).objs.size := by rw [z]; exact Nat.ne_of_lt (Nat.lt_succ_self _)
        have hh3 : A.in1.in1.in1.handled = none := by simp [hh]
        refine set_loop (by simp [hh]) hv hb hlI hSI (Nat.ne_of_gt hlS) (vs.length - 0) 0 _ rfl (Nat.zero_le _) ⟨⟨_, Heap.get?_push_size _ rfl, rfl, rfl⟩, (hl1.push _)⟩ ?hS0 ?hR
        case hS0 =>
          refine SetOf_congr ((setObjOf_fresh (knd := strKind prog w) led).setOf (Heap.get?_push_of_some _ hS) (by unfold scanBound; omega)) (fun _ => rfl) rfl
        case hR =>
          intro h' tk hk hS'
          show wpAny _ _ _ _ _ _
          refine wpAny_pure ?_
          show wpAny _ _ (ret Value.none) _ _ _
          refine wpAny_pure ⟨rfl, h', tk, rfl, hS', fun b o e => hk b o ?_ ?_ (Heap.get?_push_of_some _ (Heap.get?_push_of_some _ e))⟩
          · rw [z]; exact Nat.ne_of_lt (Nat.lt_succ_of_lt (Heap.lt_size e))
          · exact Nat.ne_of_lt (Heap.lt_size e)
      · cases r₂ with
        | error e => exact hr₂
        | ok fl₂ =>
          cases fl₂ with
          | ret r =>
            obtain ⟨rfl, h', tk, rfl, hS', hk'⟩ := hr₂
            repeat (any_goals (first | assumption | wp_step))
            exact h _ _ hS' hk'
          | _ => exact hr₂.elim
    | _ => exact hr.elim
end
section
variable {prog : Program} {w : World} {A : Around} {E : Value → Shared → Prop} {s : Shared} {h₀ : Heap} {L : Addr} {m : Str → Option Value} {news : List (Addr × Obj)}
/-- set(l) for a list of strs in the ledger: a new set -/
theorem set_strs_N {l : Addr} {vs : List Value} {xs : List Str} {n : Nat} {Q : Value → Shared → Prop} (F : Fr h₀ L s.heap m) (N : News h₀ L s.heap news) (hh : A.handled = none) (hm : (l, listOf vs.toArray n) ∈ news) (hv : StrsAre vs xs) (hb : xs.length ≤ 500)
    (h : ∀ a h' tk o, Fr h₀ L h' m → News h₀ L h' ((a, o) :: news) → (∀ q ∈ news, q.1 < a) → o.SetObjOf (strKind prog w) (fun y => (ded xs).any (· == y)) (ded xs).length → Q (.ref a) { s with heap := h', toks := tk }) :
    wpAny (model prog w) A (call (.type "set") [.ref l]) Q E s := by
  refine call_set_strs hh ⟨_, (N _ hm).1, rfl, n, rfl⟩ hv (by unfold scanBound; omega) fun h' tk hS hk => ?_
  obtain ⟨o, ho, hso⟩ := hS.objOf
  exact h _ h' tk o (F.keeps hk) (news_new F N (Nat.le_refl _) hk ho) (news_lt N (Nat.le_refl _)) hso
theorem len_set_N {a : Addr} {o : Obj} {S : Str → Bool} {k : Nat} {Q : Value → Shared → Prop} (N : News h₀ L s.heap news) (hm : (a, o) ∈ news) (hso : o.SetObjOf (strKind prog w) S k) (hk : k ≤ 500)
    (h : Q (.int k (s.toks + 1)) { s with toks := s.toks + 1 + 1 }) : wpAny (model prog w) A (call (.builtin "len") [.ref a]) Q E s := by
  obtain ⟨hex, es, ep, t, hd, _, _, hn, hf⟩ := hso
  subst hn
  exact call_len_set (N _ hm).1 hex hd hf (by omega) h
end
end
section
set_option tactic.hygienic false
theorem ln71 : True := by
  k_with_none
  (k_with "room" => first | exact roomE (by assumption) | exact roomD (by assumption) (by first | decide | omega) | ((try simp only [depth_mark, depth_under_make, depth_under_kw, depth_in1, depth_deeper, depth_caller]); (try dsimp only [ktrTop]); omega))
  (k_with "mem" => first | exact List.mem_cons_self | (refine List.mem_cons_of_mem _ ?_; first | ktr_member | k_mem))
  (k_with "enter" => (refine' code_def (by first | (k_asm) | fail "no") (by first | (k_asm) | fail "no") (by first | (k_asm) | fail "no") (by first | (k_asm) | fail "no") (by first | (k_asm) | fail "no") (by first | (exact rfl) | fail "no") (by first | (exact rfl) | fail "no") (by first | (first | exact rfl | assumption) | fail "no") (by first | (k_is) | fail "no") (by first | (k_is) | fail "no") (by first | (k_room) | fail "no") (by first | (first | exact BindsTo.of_eq rfl | exact binds_K (by k_in) rfl (by k_is) rfl rfl rfl) | fail "no") (by first | (exact locs rfl) | fail "no") ?_ (by first | (exact rfl) | fail "no") (by first | (exact rfl) | fail "no") (by first | (exact rfl) | fail "no") (by first | (decide) | fail "no"); k_whole; intro g' L' h' FG' F' N' B' X' T'; (try dsimp only); (try k_fold); (try (refine (let en9 := _; let ar9 := Around.deeper _ en9; (?_ : wpAny _ ar9 (execs _ en9) _ _ _))))))
  (k_with "exec For Name Name cons nil" => (k_here; (rename Fr _ _ _ _ => lF'); (with_unfolding_all refine' For_invVF lF' (by first | (exact rfl) | fail "no") (by first | (exact rfl) | fail "no") ?_; k_whole)))
  (k_with "exec For Name Call cons nil" => (k_here; (rename Fr _ _ _ _ => lF'); (with_unfolding_all refine' For_invVF lF' (by first | (exact rfl) | fail "no") (by first | (exact rfl) | fail "no") ?_; k_whole)))
  (k_with "pyIter ref" => (refine Held.out ?_))
  (k_with "subscriptTail" => (k_here; (with_reducible show wpAny _ _ (subscriptTail _ _ (Value.ref _) (Value.int 0 _)) _ _ _); k_dflt (refine' item0 (by first | (exact News.isTup (by k_asm) (by k_mem)) | fail "no") ?_ (by first | (with_unfolding_all rfl) | fail "no"); k_whole)))
  (k_with "compareOp NotIn str ref" => (k_here; (with_reducible show wpAny _ _ (compareOp CmpOp.NotIn (Value.str _ _) (Value.ref _)) _ _ _); (with_unfolding_all refine' notin_tuple_strs (by first | ((refine' tupK (by first | (k_in) | fail "no") (by first | (k_dflt k_is) | fail "no"))) | fail "no") (by first | (repeat constructor) | fail "no") ?_; k_whole)))
  (k_with "ite" => (refine ite_no (by first | ((simp only [beq_eq_false_iff_ne, ne_eq]; assumption)) | fail "no") ?_))
  (k_with "TurnPost" => (dsimp only [TurnPost]))
  trivial

section
variable {prog : Program} {w : World} {A : Around} {E : Value → Shared → Prop} {s : Shared} {h₀ : Heap} {L : Addr} {m : Str → Option Value} {news : List (Addr × Obj)}
theorem tuple_list_N {l : Addr} {vs : List Value} {n : Nat} {Q : Value → Shared → Prop} (F : Fr h₀ L s.heap m) (N : News h₀ L s.heap news) (hm : (l, listOf vs.toArray n) ∈ news) (hz : vs.length ≤ 100)
    (h : ∀ a h', Fr h₀ L h' m → News h₀ L h' ((a, tupO vs 0) :: news) → (∀ q ∈ news, q.1 < a) → Q (.ref a) { s with heap := h' }) :
    wpAny (model prog w) A (call (.type "tuple") [.ref l]) Q E s := by
  have hz' : vs.toArray.size ≤ sizeLine := by
    rw [List.size_toArray]
    exact Nat.le_trans hz (by decide)
  refine call_tuple_list (hsz := hz') ⟨_, (N _ hm).1, rfl, n, rfl⟩ fun h' hk => ?_
  have F' := F.keeps hk
  have N' := N.grown hk
  exact h _ _ (F'.push _) (News.push F' N' _) (news_lt N' (Nat.le_refl _))
end
theorem ln72 : True := by
  (k_with "call type:tuple" => (k_here; (with_reducible show wpAny _ _ (call (Value.type _) [Value.ref _]) _ _ _); k_dflt (refine' tuple_list_N (by first | (k_asm) | fail "no") (by first | (k_asm) | fail "no") (by first | (k_mem) | fail "no") (by first | (assumption) | fail "no") ?_); intro a9 h9 F9 N9 l9; (try dsimp only); (try k_fold)))
  trivial

section
variable {w : World} {mean : ExcName → Option Value} {mg mb : Str → Option Value} {news : List (Addr × Obj)}
set_option maxRecDepth 100000 in
set_option maxHeartbeats 8000000 in
theorem law_switch_spec {l : Addr} {n : Nat} {vs : List Value} {lv : Value} (hm : (l, listOf vs.toArray n) ∈ news) (hz : vs.length ≤ 100) : Call w mean mg mb 5 200 [lv, .ref l] news fun r tl => ∃ a b t u, r = .ref a ∧ tl = [(a, tupO [.str "switch" t, .int 0 u, lv, .none, .none, .ref b] 0), (b, tupO vs 0)] := by
  intro dp un gd cn cs a ccd cl outer A₀ base h₀ L m sH sG sD sT sO Q E B F X N T hk hdp hun ret
  refine wpAny_call ?_
  k_dflt ktr_enter
  k_steps
  exact ret _ [(_, _), (_, _)] _ _ (by assumption) (by assumption) (lt_two (by first | assumption | exact allLt_of (by assumption) | tbn_find) (by first | assumption | exact allLt_of (by assumption) | tbn_find)) ⟨_, _, _, _, rfl, rfl⟩
end
end
section
set_option tactic.hygienic false
theorem ln73 : True := by
  k_with_none
  (k_with "room" => first | exact roomE (by assumption) | exact roomD (by assumption) (by first | decide | omega) | ((try simp only [depth_mark, depth_under_make, depth_under_kw, depth_in1, depth_deeper, depth_caller]); (try dsimp only [ktrTop]); omega))
  (k_with "mem" => first | exact List.mem_cons_self | (refine List.mem_cons_of_mem _ ?_; first | ktr_member | k_mem))
  (k_with "enter" => (refine' code_def (by first | (k_asm) | fail "no") (by first | (k_asm) | fail "no") (by first | (k_asm) | fail "no") (by first | (k_asm) | fail "no") (by first | (k_asm) | fail "no") (by first | (exact rfl) | fail "no") (by first | (exact rfl) | fail "no") (by first | (first | exact rfl | assumption) | fail "no") (by first | (k_is) | fail "no") (by first | (k_is) | fail "no") (by first | (k_room) | fail "no") (by first | (first | exact BindsTo.of_eq rfl | exact binds_K (by k_in) rfl (by k_is) rfl rfl rfl) | fail "no") (by first | (exact locs rfl) | fail "no") ?_ (by first | (exact rfl) | fail "no") (by first | (exact rfl) | fail "no") (by first | (exact rfl) | fail "no") (by first | (decide) | fail "no"); k_whole; intro g' L' h' FG' F' N' B' X' T'; (try dsimp only); (try k_fold); (try (refine (let en9 := _; let ar9 := Around.deeper _ en9; (?_ : wpAny _ ar9 (execs _ en9) _ _ _))))))
  (k_with "exec For Name Name cons nil" => (k_here; (rename Fr _ _ _ _ => lF'); (with_unfolding_all refine' For_invVF lF' (by first | (exact rfl) | fail "no") (by first | (exact rfl) | fail "no") ?_; k_whole)))
  (k_with "exec For Name Call cons nil" => (k_here; (rename Fr _ _ _ _ => lF'); (with_unfolding_all refine' For_invVF lF' (by first | (exact rfl) | fail "no") (by first | (exact rfl) | fail "no") ?_; k_whole)))
  (k_with "pyIter ref" => (refine Held.out ?_))
  (k_with "subscriptTail" => (k_here; (with_reducible show wpAny _ _ (subscriptTail _ _ (Value.ref _) (Value.int 0 _)) _ _ _); k_dflt (refine' item0 (by first | (exact News.isTup (by k_asm) (by k_mem)) | fail "no") ?_ (by first | (with_unfolding_all rfl) | fail "no"); k_whole)))
  (k_with "compareOp NotIn str ref" => (k_here; (with_reducible show wpAny _ _ (compareOp CmpOp.NotIn (Value.str _ _) (Value.ref _)) _ _ _); (with_unfolding_all refine' notin_tuple_strs (by first | ((refine' tupK (by first | (k_in) | fail "no") (by first | (k_dflt k_is) | fail "no"))) | fail "no") (by first | (repeat constructor) | fail "no") ?_; k_whole)))
  (k_with "ite" => (refine ite_no (by first | ((simp only [beq_eq_false_iff_ne, ne_eq]; assumption)) | fail "no") ?_))
  (k_with "TurnPost" => (dsimp only [TurnPost]))
  trivial

theorem ln74 : True := by
  (k_with "fold" => (first | (fail_if_success k_fold) | (refine (let qk : _ → Shared → Prop := _; (?_ : wpAny _ _ _ qk _ _)))))
  trivial

inductive RowsIn (news : List (Addr × Obj)) : List Value → List Row → Prop
  | nil : RowsIn news [] []
  | cons {v : Value} {vs : List Value} {r : Row} {rs : List Row} : RowIn news v r → RowsIn news vs rs → RowsIn news (v :: vs) (r :: rs)
theorem RowsIn.mono {news news' : List (Addr × Obj)} (hs : ∀ p ∈ news, p ∈ news') {vs : List Value} {rs : List Row} (h : RowsIn news vs rs) : RowsIn news' vs rs := by
  induction h with
  | nil => exact .nil
  | cons h _ ih => exact .cons (h.mono hs) ih
theorem RowsIn.get {news : List (Addr × Obj)} {vs : List Value} {rs : List Row} {i : Nat} {v : Value} (h : RowsIn news vs rs) (e : vs[i]? = some v) : ∃ r, rs[i]? = some r ∧ RowIn news v r := by
  induction h generalizing i with
  | nil => exact none_at e
  | cons h _ ih =>
    cases i with
    | zero => cases e; exact ⟨_, rfl, h⟩
    | succ i => exact ih e
theorem RowsIn.length {news : List (Addr × Obj)} : ∀ {vs : List Value} {rs : List Row}, RowsIn news vs rs → vs.length = rs.length
  | _, _, .nil => rfl
  | _, _, .cons _ r => by simp [r.length]
theorem LabsIn.length {vs : List Value} {xs : List Str} (h : LabsIn vs xs) : vs.length = xs.length := by
  induction h with
  | nil => rfl
  | cons _ _ ih => exact congrArg Nat.succ ih
theorem LabsIn.append {vs us : List Value} {xs ys : List Str} (h : LabsIn vs xs) (k : LabsIn us ys) : LabsIn (vs ++ us) (xs ++ ys) := by
  induction h with
  | nil => exact k
  | cons hx _ ih => exact .cons hx ih
theorem LabsIn.strs : ∀ {vs : List Value} {xs : List Str}, LabsIn vs xs → StrsAre vs xs
  | _, _, .nil => .nil
  | _, _, .cons _ r => .cons r.strs
/-- the lists of labels that the rows hold -/
theorem RowsIn.labs {news : List (Addr × Obj)} : ∀ {vs : List Value} {rs : List Row}, RowsIn news vs rs → ∃ wss : List (List Value), wss.length = rs.length ∧ LabsIn wss.flatten (rs.map Row.labels).flatten ∧
    ∀ (i : Nat) (v : Value), vs[i]? = some v → ∃ (a k ll : Addr) (n n' : Nat) (r : Row) (ls : List Value), v = .ref a ∧ (a, tupO [.ref k, .bool r.term, .bool r.never, .ref ll, .bool r.leaves, .bool r.goes] n) ∈ news ∧ (ll, listOf ls.toArray n') ∈ news ∧ wss[i]? = some ls ∧ rs[i]? = some r ∧ LabsIn ls r.labels
  | _, _, .nil => ⟨[], rfl, .nil, fun i v h => by simp at h⟩
  | _, _, .cons h r => by
    obtain ⟨wss, e1, e2, e3⟩ := r.labs
    obtain ⟨h1, h2, h3, h4, h5⟩ := h
    refine ⟨_ :: wss, by simp [e1], by simpa using h5.append e2, fun i v hv => ?_⟩
    cases i with
    | zero => cases hv; exact ⟨_, _, _, _, _, _, _, rfl, h1, h4, rfl, rfl, h5⟩
    | succ i => simpa using e3 i v (by simpa using hv)
theorem any_takeR {rs : List Row} {f : Row → Bool} {i : Nat} {r : Row} (h : rs[i]? = some r) : (rs.take (i + 1)).any f = ((rs.take i).any f || f r) := by
  rw [List.take_add_one, h, List.any_append]; simp
theorem flat_le : ∀ {rs : List Row}, (∀ r ∈ rs, r.labels.length ≤ 5) → (rs.map Row.labels).flatten.length ≤ rs.length * 5
  | [], _ => by simp
  | r :: rs, h => by
    have h1 := flat_le (rs := rs) fun r' hr' => h r' (.tail _ hr')
    have h2 := h r (.head _)
    rw [List.map_cons, List.flatten_cons, List.length_append, List.length_cons]
    omega
noncomputable def neverOf (rs : List Row) : Bool := ((rs.map Row.labels).flatten.length != (ded (rs.map Row.labels).flatten).length) || rs.any Row.never
theorem never_ne {ls : List Value} {rs : List Row} (h : ls.length = (rs.map Row.labels).flatten.length) (e : (ls.toArray.size : Int) ≠ ((ded (rs.map Row.labels).flatten).length : Int)) : ((ls.toArray.size : Int) != ((ded (rs.map Row.labels).flatten).length : Int)) = neverOf rs := by
  rw [bne_iff_ne.mpr e]
  have : ((rs.map Row.labels).flatten.length != (ded (rs.map Row.labels).flatten).length) = true := bne_iff_ne.mpr (by rw [List.size_toArray] at e; omega)
  unfold neverOf; rw [this]; rfl
theorem never_eq {ls : List Value} {rs : List Row} (h : ls.length = (rs.map Row.labels).flatten.length) (e : (ls.toArray.size : Int) = ((ded (rs.map Row.labels).flatten).length : Int)) : neverOf rs = rs.any Row.never := by
  have : ((rs.map Row.labels).flatten.length != (ded (rs.map Row.labels).flatten).length) = false := by
    rw [bne_eq_false_iff_eq]
    rw [List.size_toArray] at e; omega
  unfold neverOf; rw [this]; rfl
theorem ln75 : True := by
  (k_with "eval ListComp" => (k_here; (with_unfolding_all refine' comp_eval (by first | (exact rfl) | fail "no") (by first | (exact rfl) | fail "no") (by first | (decide) | fail "no") (by first | (exact rfl) | fail "no") (by first | (decide) | fail "no") (by first | (exact rfl) | fail "no") ?_ (by first | ((intro _; rfl)) | fail "no"); k_whole)))
  (k_with "exec Assign cons ListComp" => (k_here; (with_unfolding_all refine' comp2_assign (by first | (exact rfl) | fail "no") (by first | (exact rfl) | fail "no") (by first | (exact rfl) | fail "no") (by first | (decide) | fail "no") (by first | (exact rfl) | fail "no") (by first | (decide) | fail "no") (by first | (exact rfl) | fail "no") (by first | (exact rfl) | fail "no") (by first | (decide) | fail "no") (by first | (exact rfl) | fail "no") (by first | (exact rfl) | fail "no") ?_ (by first | ((intro _; rfl)) | fail "no") (by first | ((intro _ _; rfl)) | fail "no"); k_whole)))
  (k_with "call type:set cons nil" => refine Held.out ?_)
  (k_with "call type:set" => refine Held.out ?_)
  (k_with "compareOp NotEq ref ref" => (k_here; k_dflt (refine' ne_nilL (by first | (exact News.isList (by k_asm) (by k_mem)) | fail "no") (by first | (exact News.isList (by k_asm) (by k_mem)) | fail "no") (by first | ((first | exact roomU (by assumption) (by first | decide | omega) | exact roomV (by assumption) (by first | decide | omega) | ((try simp only [units_in1, units_deeper, Around.mark_units, units_caller]); (try dsimp only [ktrTop]); omega))) | fail "no") ?_)))
  (k_with "call builtin:len" => refine Held.out ?_)
  trivial

section
variable {w : World} {mean : ExcName → Option Value} {mg mb : Str → Option Value} {news : List (Addr × Obj)}
set_option maxRecDepth 100000 in
set_option maxHeartbeats 8000000 in
theorem law_needs_spec {l : Addr} {n : Nat} {vs : List Value} {rs : List Row} (hm : (l, listOf vs.toArray n) ∈ news) (hR : RowsIn news vs rs) (hz : vs.length ≤ 10) (hz1 : ∀ r ∈ rs, r.labels.length ≤ 5) :
    Call w mean mg mb 3 210 [.ref l] news fun r tl => ∃ a ll ls k, r = .ref a ∧ tl = [(a, tupO [.bool (neverOf rs), .ref ll, .bool (rs.any Row.leaves), .bool (rs.any Row.goes)] 0), (ll, listOf ls.toArray k)] ∧ LabsIn ls (rs.map Row.labels).flatten := by
  intro dp un gd cn cs a ccd cl outer A₀ base h₀ L m sH sG sD sT sO Q E B F X N T hk hdp hun ret
  refine wpAny_call ?_
  k_dflt ktr_enter
  obtain ⟨wss, hw1, hw2, hw3⟩ := hR.labs
  try k_extra "fold"
  k_steps
  rename Fr _ _ _ _ => F9
  rename News _ _ _ _ => N9
  refine Held.intro ⟨l, vs, n, wss, _, _, news, rfl, hm, hz, F9, N9, ?_, ?_⟩
  · intro C i v s₃ mC E' hv hCs hn hm' hkp
    obtain ⟨a', k', ll, m1, m2, r', ls, rfl, g1, g2, g3, g4, g5⟩ := hw3 i v hv
    have F8 := frInComp hn hkp hCs
    have N8 := News.grown N9 hkp
    try k_extra "fold"
    k_steps
    refine Held.intro ⟨⟨s₃.heap, _, rfl, fun _ _ e => e⟩, ll, ls, m2, rfl, (N9 _ g2).1, g3, ?_⟩
    rw [g5.length]
    exact Nat.le_trans (hz1 _ (List.mem_of_getElem? g4)) (by decide)
  · intro D h' tk k hD F8 N8
    have l9 := news_lt N9 hD
    have hls : LabsIn (wss.take vs.length).flatten (rs.map Row.labels).flatten := by
      rw [hR.length, ← hw1, List.take_length]; exact hw2
    generalize (wss.take vs.length).flatten = ls at hls N8
    clear F9 N9
    try k_extra "fold"
    k_steps
    have hll : ls.length = (rs.map Row.labels).flatten.length := hls.length
    have hlz : (rs.map Row.labels).flatten.length ≤ 50 := by
      have := flat_le hz1
      have := hR.length
      omega
    rename News _ _ _ _ => N9
    refine Held.intro (PyProof.Rows.len_list (News.isList N9 (.head _)) (by rw [List.size_toArray]; omega) ?_)
    try dsimp only
    try k_extra "fold"
    k_steps
    rename Fr _ _ _ _ => F9
    rename News _ _ _ _ => N9
    refine Held.intro (set_strs_N F9 N9 (by exact rfl) (.head _) hls.strs (Nat.le_trans hlz (by decide)) ?_)
    intro a8 h8 tk8 o8 F8 N8 l8 hs8
    clear F9 N9
    try dsimp only
    try k_extra "fold"
    k_steps
    rename News _ _ _ _ => N9
    refine Held.intro (len_set_N N9 (.head _) hs8 (Nat.le_trans (ded_le _) (Nat.le_trans hlz (by decide))) ?_)
    try dsimp only
    try k_extra "fold"
    k_steps
    · rename _ ≠ _ => hne
      clear N9
      rename Fr _ _ _ _ => F9
      rename News _ _ _ _ => N9
      refine Held.intro ⟨l, vs, fun i ys tl => tl = [] ∧ ys.isEmpty = !((rs.take i).any Row.leaves), rfl, .inr ⟨_, (N9 (l, listOf vs.toArray n) (by k_mem)).1, rfl, n, rfl⟩, Nat.le_trans hz (by decide), ⟨rfl, rfl⟩, ?_, ?_⟩
      · intro C i v ys tl s₃ mC E' hv hCs hG hn hm' hkp ht
        obtain ⟨a', k', ll, m1, m2, r', ls', rfl, g1, g2, g3, g4, g5⟩ := hw3 i v hv
        have F8 := frInComp hn hkp hCs
        have N8 := News.grown N9 hkp
        refine wpAny_tests_one ?_
        clear N9
        try k_extra "fold"
        k_steps
        refine Held.intro ⟨⟨s₃.heap, _, rfl, fun _ _ e => e⟩, ?_⟩
        have e1 := any_takeR (f := Row.leaves) g4
        cases hb : Row.leaves r'
        · rw [if_neg (by decide)]
          exact ⟨hG.1, by rw [e1, hb, Bool.or_false]; exact hG.2⟩
        · rw [if_pos rfl]
          try k_extra "fold"
          k_steps
          exact Held.intro ⟨⟨s₃.heap, _, rfl, fun _ _ e => e⟩, [], fun _ h => (nomatch h), hG.1, by rw [e1, hb]; simp⟩
      intro Dp1 hp1 tkp1 ysp1 tl kp1 sp1 hG hkp hDoo ht
      have F8 := Fr.keeps F9 hkp
      have N8 := news_new F9 N9 sp1 hkp hDoo
      have hep1 : (!ysp1.isEmpty) = rs.any Row.leaves := by rw [hG.2, hR.length, List.take_length, Bool.not_not]
      have lp1 := news_lt N9 sp1
      clear ht hDoo N9 F9 hG hkp
      try k_extra "fold"
      k_steps
      rename Fr _ _ _ _ => F9
      rename News _ _ _ _ => N9
      refine Held.intro ⟨l, vs, fun i ys tl => tl = [] ∧ ys.isEmpty = !((rs.take i).any Row.goes), rfl, .inr ⟨_, (N9 (l, listOf vs.toArray n) (by k_mem)).1, rfl, n, rfl⟩, Nat.le_trans hz (by decide), ⟨rfl, rfl⟩, ?_, ?_⟩
      · intro C i v ys tl s₃ mC E' hv hCs hG hn hm' hkp ht
        obtain ⟨a', k', ll, m1, m2, r', ls', rfl, g1, g2, g3, g4, g5⟩ := hw3 i v hv
        have F8 := frInComp hn hkp hCs
        have N8 := News.grown N9 hkp
        refine wpAny_tests_one ?_
        clear N9
        try k_extra "fold"
        k_steps
        refine Held.intro ⟨⟨s₃.heap, _, rfl, fun _ _ e => e⟩, ?_⟩
        have e1 := any_takeR (f := Row.goes) g4
        cases hb : Row.goes r'
        · rw [if_neg (by decide)]
          exact ⟨hG.1, by rw [e1, hb, Bool.or_false]; exact hG.2⟩
        · rw [if_pos rfl]
          try k_extra "fold"
          k_steps
          exact Held.intro ⟨⟨s₃.heap, _, rfl, fun _ _ e => e⟩, [], fun _ h => (nomatch h), hG.1, by rw [e1, hb]; simp⟩
      intro Dp2 hp2 tkp2 ysp2 tl kp2 sp2 hG hkp hDoo ht
      have F8 := Fr.keeps F9 hkp
      have N8 := news_new F9 N9 sp2 hkp hDoo
      have hep2 : (!ysp2.isEmpty) = rs.any Row.goes := by rw [hG.2, hR.length, List.take_length, Bool.not_not]
      have lp2 := news_lt N9 sp2
      clear ht hDoo N9 F9 hG hkp
      try k_extra "fold"
      k_steps
      rename Fr _ _ _ _ => F9
      rename News _ _ _ _ => N9
      rw [hep1, hep2, never_ne hll hne] at N9
      exact ret _ [(_, _), (_, _)] _ _ F9 (news_sub N9 (sub_cons (sub_tail (sub_tail (sub_tail (sub_tail (sub_tail (sub_cons sub_self)))))))) (lt_two (by first | assumption | exact allLt_of (by assumption) | tbn_find) (by first | assumption | exact allLt_of (by assumption) | tbn_find)) ⟨_, _, _, _, rfl, rfl, hls⟩
    · rename _ = _ => hne
      rename Fr _ _ _ _ => F9
      rename News _ _ _ _ => N9
      refine Held.intro ⟨l, vs, fun i ys tl => tl = [] ∧ ys.isEmpty = !((rs.take i).any Row.never), rfl, .inr ⟨_, (N9 (l, listOf vs.toArray n) (by k_mem)).1, rfl, n, rfl⟩, Nat.le_trans hz (by decide), ⟨rfl, rfl⟩, ?_, ?_⟩
      · intro C i v ys tl s₃ mC E' hv hCs hG hn hm' hkp ht
        obtain ⟨a', k', ll, m1, m2, r', ls', rfl, g1, g2, g3, g4, g5⟩ := hw3 i v hv
        have F8 := frInComp hn hkp hCs
        have N8 := News.grown N9 hkp
        refine wpAny_tests_one ?_
        clear N9
        try k_extra "fold"
        k_steps
        refine Held.intro ⟨⟨s₃.heap, _, rfl, fun _ _ e => e⟩, ?_⟩
        have e1 := any_takeR (f := Row.never) g4
        cases hb : Row.never r'
        · rw [if_neg (by decide)]
          exact ⟨hG.1, by rw [e1, hb, Bool.or_false]; exact hG.2⟩
        · rw [if_pos rfl]
          try k_extra "fold"
          k_steps
          exact Held.intro ⟨⟨s₃.heap, _, rfl, fun _ _ e => e⟩, [], fun _ h => (nomatch h), hG.1, by rw [e1, hb]; simp⟩
      intro Dp3 hp3 tkp3 ysp3 tl kp3 sp3 hG hkp hDoo ht
      have F8 := Fr.keeps F9 hkp
      have N8 := news_new F9 N9 sp3 hkp hDoo
      have hep3 : (!ysp3.isEmpty) = rs.any Row.never := by rw [hG.2, hR.length, List.take_length, Bool.not_not]
      have lp3 := news_lt N9 sp3
      clear ht hDoo N9 F9 hG hkp
      try k_extra "fold"
      k_steps
      rename Fr _ _ _ _ => F9
      rename News _ _ _ _ => N9
      refine Held.intro ⟨l, vs, fun i ys tl => tl = [] ∧ ys.isEmpty = !((rs.take i).any Row.leaves), rfl, .inr ⟨_, (N9 (l, listOf vs.toArray n) (by k_mem)).1, rfl, n, rfl⟩, Nat.le_trans hz (by decide), ⟨rfl, rfl⟩, ?_, ?_⟩
      · intro C i v ys tl s₃ mC E' hv hCs hG hn hm' hkp ht
        obtain ⟨a', k', ll, m1, m2, r', ls', rfl, g1, g2, g3, g4, g5⟩ := hw3 i v hv
        have F8 := frInComp hn hkp hCs
        have N8 := News.grown N9 hkp
        refine wpAny_tests_one ?_
        clear N9
        try k_extra "fold"
        k_steps
        refine Held.intro ⟨⟨s₃.heap, _, rfl, fun _ _ e => e⟩, ?_⟩
        have e1 := any_takeR (f := Row.leaves) g4
        cases hb : Row.leaves r'
        · rw [if_neg (by decide)]
          exact ⟨hG.1, by rw [e1, hb, Bool.or_false]; exact hG.2⟩
        · rw [if_pos rfl]
          try k_extra "fold"
          k_steps
          exact Held.intro ⟨⟨s₃.heap, _, rfl, fun _ _ e => e⟩, [], fun _ h => (nomatch h), hG.1, by rw [e1, hb]; simp⟩
      intro Dp1 hp1 tkp1 ysp1 tl kp1 sp1 hG hkp hDoo ht
      have F8 := Fr.keeps F9 hkp
      have N8 := news_new F9 N9 sp1 hkp hDoo
      have hep1 : (!ysp1.isEmpty) = rs.any Row.leaves := by rw [hG.2, hR.length, List.take_length, Bool.not_not]
      have lp1 := news_lt N9 sp1
      clear ht hDoo N9 F9 hG hkp
      try k_extra "fold"
      k_steps
      rename Fr _ _ _ _ => F9
      rename News _ _ _ _ => N9
      refine Held.intro ⟨l, vs, fun i ys tl => tl = [] ∧ ys.isEmpty = !((rs.take i).any Row.goes), rfl, .inr ⟨_, (N9 (l, listOf vs.toArray n) (by k_mem)).1, rfl, n, rfl⟩, Nat.le_trans hz (by decide), ⟨rfl, rfl⟩, ?_, ?_⟩
      · intro C i v ys tl s₃ mC E' hv hCs hG hn hm' hkp ht
        obtain ⟨a', k', ll, m1, m2, r', ls', rfl, g1, g2, g3, g4, g5⟩ := hw3 i v hv
        have F8 := frInComp hn hkp hCs
        have N8 := News.grown N9 hkp
        refine wpAny_tests_one ?_
        clear N9
        try k_extra "fold"
        k_steps
        refine Held.intro ⟨⟨s₃.heap, _, rfl, fun _ _ e => e⟩, ?_⟩
        have e1 := any_takeR (f := Row.goes) g4
        cases hb : Row.goes r'
        · rw [if_neg (by decide)]
          exact ⟨hG.1, by rw [e1, hb, Bool.or_false]; exact hG.2⟩
        · rw [if_pos rfl]
          try k_extra "fold"
          k_steps
          exact Held.intro ⟨⟨s₃.heap, _, rfl, fun _ _ e => e⟩, [], fun _ h => (nomatch h), hG.1, by rw [e1, hb]; simp⟩
      intro Dp2 hp2 tkp2 ysp2 tl kp2 sp2 hG hkp hDoo ht
      have F8 := Fr.keeps F9 hkp
      have N8 := news_new F9 N9 sp2 hkp hDoo
      have hep2 : (!ysp2.isEmpty) = rs.any Row.goes := by rw [hG.2, hR.length, List.take_length, Bool.not_not]
      have lp2 := news_lt N9 sp2
      clear ht hDoo N9 F9 hG hkp
      try k_extra "fold"
      k_steps
      rename Fr _ _ _ _ => F9
      rename News _ _ _ _ => N9
      rw [hep1, hep2, hep3, ← never_eq hll hne] at N9
      exact ret _ [(_, _), (_, _)] _ _ F9 (news_sub N9 (sub_cons (sub_tail (sub_tail (sub_tail (sub_tail (sub_tail (sub_tail (sub_tail (sub_cons sub_self)))))))))) (lt_two (by first | assumption | exact allLt_of (by assumption) | tbn_find) (by first | assumption | exact allLt_of (by assumption) | tbn_find)) ⟨_, _, _, _, rfl, rfl, hls⟩
end
end
section
set_option tactic.hygienic false
theorem ln76 : True := by
  k_with_none
  (k_with "room" => first | exact roomE (by assumption) | exact roomD (by assumption) (by first | decide | omega) | ((try simp only [depth_mark, depth_under_make, depth_under_kw, depth_in1, depth_deeper, depth_caller]); (try dsimp only [ktrTop]); omega))
  (k_with "mem" => first | exact List.mem_cons_self | (refine List.mem_cons_of_mem _ ?_; first | ktr_member | k_mem))
  (k_with "enter" => (refine' code_def (by first | (k_asm) | fail "no") (by first | (k_asm) | fail "no") (by first | (k_asm) | fail "no") (by first | (k_asm) | fail "no") (by first | (k_asm) | fail "no") (by first | (exact rfl) | fail "no") (by first | (exact rfl) | fail "no") (by first | (first | exact rfl | assumption) | fail "no") (by first | (k_is) | fail "no") (by first | (k_is) | fail "no") (by first | (k_room) | fail "no") (by first | (first | exact BindsTo.of_eq rfl | exact binds_K (by k_in) rfl (by k_is) rfl rfl rfl) | fail "no") (by first | (exact locs rfl) | fail "no") ?_ (by first | (exact rfl) | fail "no") (by first | (exact rfl) | fail "no") (by first | (exact rfl) | fail "no") (by first | (decide) | fail "no"); k_whole; intro g' L' h' FG' F' N' B' X' T'; (try dsimp only); (try k_fold); (try (refine (let en9 := _; let ar9 := Around.deeper _ en9; (?_ : wpAny _ ar9 (execs _ en9) _ _ _))))))
  (k_with "exec For Name Name cons nil" => (k_here; (rename Fr _ _ _ _ => lF'); (with_unfolding_all refine' For_invVF lF' (by first | (exact rfl) | fail "no") (by first | (exact rfl) | fail "no") ?_; k_whole)))
  (k_with "exec For Name Call cons nil" => (k_here; (rename Fr _ _ _ _ => lF'); (with_unfolding_all refine' For_invVF lF' (by first | (exact rfl) | fail "no") (by first | (exact rfl) | fail "no") ?_; k_whole)))
  (k_with "pyIter ref" => (refine Held.out ?_))
  (k_with "subscriptTail" => (k_here; (with_reducible show wpAny _ _ (subscriptTail _ _ (Value.ref _) (Value.int 0 _)) _ _ _); k_dflt (refine' item0 (by first | (exact News.isTup (by k_asm) (by k_mem)) | fail "no") ?_ (by first | (with_unfolding_all rfl) | fail "no"); k_whole)))
  (k_with "compareOp NotIn str ref" => (k_here; (with_reducible show wpAny _ _ (compareOp CmpOp.NotIn (Value.str _ _) (Value.ref _)) _ _ _); (with_unfolding_all refine' notin_tuple_strs (by first | ((refine' tupK (by first | (k_in) | fail "no") (by first | (k_dflt k_is) | fail "no"))) | fail "no") (by first | (repeat constructor) | fail "no") ?_; k_whole)))
  (k_with "ite" => (refine ite_no (by first | ((simp only [beq_eq_false_iff_ne, ne_eq]; assumption)) | fail "no") ?_))
  (k_with "TurnPost" => (dsimp only [TurnPost]))
  trivial

noncomputable def labsOf (rs : List Row) : List Str := (rs.map Row.labels).flatten
noncomputable def Row.put (way : Int) (r1 r2 r3 : Row) : Row :=
  if way = 0 then ⟨.cons (.blk r1.body) .nil, r1.term, r1.never, r1.labels, r1.leaves, r1.goes⟩
  else if way = 1 then ⟨.cons (.if2 r1.body (.blk r2.body)) .nil, r1.term && r2.term, neverOf [r1, r2], labsOf [r1, r2], [r1, r2].any Row.leaves, [r1, r2].any Row.goes⟩
  else if way = 2 then ⟨.cons (.if1 r1.body) .nil, false, r1.never, r1.labels, r1.leaves, r1.goes⟩
  else if way = 3 then ⟨.cons (.if2 r1.body (.if2 r2.body (.blk r3.body))) .nil, r1.term && (r2.term && r3.term), neverOf [r1, r2, r3], labsOf [r1, r2, r3], [r1, r2, r3].any Row.leaves, [r1, r2, r3].any Row.goes⟩
  else if way = 4 then ⟨.cons (.sw none (.cons false r1.body (.cons true r2.body .nil))) .nil, r1.term && (r2.term && !([r1, r2].any Row.leaves)), neverOf [r1, r2], labsOf [r1, r2], false, [r1, r2].any Row.goes⟩
  else ⟨.cons (.for_ none true r1.body) .nil, !r1.leaves, r1.never, r1.labels, false, false⟩
end
section
set_option tactic.hygienic false
theorem ln77 : True := by
  k_with_none
  (k_with "room" => first | exact roomE (by assumption) | exact roomD (by assumption) (by first | decide | omega) | ((try simp only [depth_mark, depth_under_make, depth_under_kw, depth_in1, depth_deeper, depth_caller]); (try dsimp only [ktrTop]); omega))
  (k_with "mem" => first | exact List.mem_cons_self | (refine List.mem_cons_of_mem _ ?_; first | ktr_member | k_mem))
  (k_with "enter" => (refine' code_def (by first | (k_asm) | fail "no") (by first | (k_asm) | fail "no") (by first | (k_asm) | fail "no") (by first | (k_asm) | fail "no") (by first | (k_asm) | fail "no") (by first | (exact rfl) | fail "no") (by first | (exact rfl) | fail "no") (by first | (first | exact rfl | assumption) | fail "no") (by first | (k_is) | fail "no") (by first | (k_is) | fail "no") (by first | (k_room) | fail "no") (by first | (first | exact BindsTo.of_eq rfl | exact binds_K (by k_in) rfl (by k_is) rfl rfl rfl) | fail "no") (by first | (exact locs rfl) | fail "no") ?_ (by first | (exact rfl) | fail "no") (by first | (exact rfl) | fail "no") (by first | (exact rfl) | fail "no") (by first | (decide) | fail "no"); k_whole; intro g' L' h' FG' F' N' B' X' T'; (try dsimp only); (try k_fold); (try (refine (let en9 := _; let ar9 := Around.deeper _ en9; (?_ : wpAny _ ar9 (execs _ en9) _ _ _))))))
  (k_with "exec For Name Name cons nil" => (k_here; (rename Fr _ _ _ _ => lF'); (with_unfolding_all refine' For_invVF lF' (by first | (exact rfl) | fail "no") (by first | (exact rfl) | fail "no") ?_; k_whole)))
  (k_with "exec For Name Call cons nil" => (k_here; (rename Fr _ _ _ _ => lF'); (with_unfolding_all refine' For_invVF lF' (by first | (exact rfl) | fail "no") (by first | (exact rfl) | fail "no") ?_; k_whole)))
  (k_with "pyIter ref" => (refine Held.out ?_))
  (k_with "subscriptTail" => (k_here; (with_reducible show wpAny _ _ (subscriptTail _ _ (Value.ref _) (Value.int 0 _)) _ _ _); k_dflt (refine' item0 (by first | (exact News.isTup (by k_asm) (by k_mem)) | fail "no") ?_ (by first | (with_unfolding_all rfl) | fail "no"); k_whole)))
  (k_with "compareOp NotIn str ref" => (k_here; (with_reducible show wpAny _ _ (compareOp CmpOp.NotIn (Value.str _ _) (Value.ref _)) _ _ _); (with_unfolding_all refine' notin_tuple_strs (by first | ((refine' tupK (by first | (k_in) | fail "no") (by first | (k_dflt k_is) | fail "no"))) | fail "no") (by first | (repeat constructor) | fail "no") ?_; k_whole)))
  (k_with "ite" => (refine ite_no (by first | ((simp only [beq_eq_false_iff_ne, ne_eq]; assumption)) | fail "no") ?_))
  (k_with "TurnPost" => (dsimp only [TurnPost]))
  trivial

theorem ln78 : True := by
  (k_with "fold" => (first | (fail_if_success k_fold) | (refine (let qk : _ → Shared → Prop := _; (?_ : wpAny _ _ _ qk _ _)))))
  trivial

theorem Stash.out {P : Prop} (h : Stash P) : P := h
inductive BlksIn (news : List (Addr × Obj)) : List Value → List Sts → Prop
  | nil : BlksIn news [] []
  | cons {a : Addr} {vs : List Value} {b : Sts} {bs : List Sts} : BlkIn news a b → BlksIn news vs bs → BlksIn news (.ref a :: vs) (b :: bs)
theorem BlksIn.mono {news news' : List (Addr × Obj)} (hs : ∀ p ∈ news, p ∈ news') {vs : List Value} {bs : List Sts} (h : BlksIn news vs bs) : BlksIn news' vs bs := by
  induction h with
  | nil => exact .nil
  | cons h _ ih => exact .cons (h.mono hs) ih
theorem BlksIn.snoc {news : List (Addr × Obj)} {a : Addr} {b : Sts} {vs : List Value} {bs : List Sts} (h : BlksIn news vs bs) (k : BlkIn news a b) : BlksIn news (vs ++ [.ref a]) (bs ++ [b]) := by
  induction h with
  | nil => exact .cons k .nil
  | cons h _ ih => exact .cons h ih
theorem BlksIn.three {news : List (Addr × Obj)} {ys : List Value} {x y z : Sts} (h : BlksIn news ys [x, y, z]) : ∃ a b c, ys = [.ref a, .ref b, .ref c] ∧ BlkIn news a x ∧ BlkIn news b y ∧ BlkIn news c z := by
  cases h with | cons h1 h => cases h with | cons h2 h => cases h with | cons h3 h =>
    cases h
    exact ⟨_, _, _, rfl, h1, h2, h3⟩
theorem put_pack {g h : Heap} {L D : Addr} {o ox : Obj} {x : Addr} {tl news : List (Addr × Obj)} {ys : List Value} {bs : List Sts} (N : News g L h ((D, o) :: (tl ++ (x, ox) :: news))) (h1 : ∀ p ∈ tl, ∀ q ∈ news, q.1 < p.1) (h2 : AllLt x news) (hB : BlksIn (tl ++ news) ys bs) :
    ∃ tl0, News g L h ((D, o) :: (tl0 ++ news)) ∧ (x, ox) ∈ tl0 ∧ (∀ p ∈ tl0, ∀ q ∈ news, q.1 < p.1) ∧ BlksIn (tl0 ++ news) ys bs := by
  refine ⟨tl ++ [(x, ox)], by rw [List.append_assoc]; exact N, List.mem_append.mpr (.inr (.head _)), fun p hp q hq => ?_, hB.mono fun p hp => ?_⟩
  · rcases List.mem_append.mp hp with hp | hp
    · exact h1 p hp q hq
    · exact lt_one (o := ox) h2 p hp q hq
  · rcases List.mem_append.mp hp with hp | hp
    · exact List.mem_append.mpr (.inl (List.mem_append.mpr (.inl hp)))
    · exact List.mem_append.mpr (.inr hp)
theorem ln79 : True := by
  (k_with "exec Assign cons ListComp" => (k_here; (with_unfolding_all refine' comp_assignN (by first | (exact rfl) | fail "no") (by first | (exact rfl) | fail "no") (by first | (exact rfl) | fail "no") (by first | (decide) | fail "no") (by first | (exact rfl) | fail "no") (by first | (decide) | fail "no") (by first | (exact rfl) | fail "no") (by first | (exact rfl) | fail "no") (by first | (exact rfl) | fail "no") ?_ (by first | ((intro _; rfl)) | fail "no"); k_whole)))
  (k_with "call ref" => (k_here; (with_reducible show wpAny _ _ (call (Value.ref 178) _) _ _ _); refine Held.out ?_))
  (k_with "call ref" => (k_here; (with_reducible show wpAny _ _ (call (Value.ref 210) _) _ _ _); refine Held.out ?_))
  (k_with "call ref" => (k_here; (with_reducible show wpAny _ _ (call (Value.ref 200) _) _ _ _); refine Held.out ?_))
  (k_with "call ref" => (k_here; (with_reducible show wpAny _ _ (call (Value.ref 193) _) _ _ _); refine Held.out ?_))
  trivial

section
variable {prog : Program} {w : World} {A : Around} {E : Value → Shared → Prop} {s : Shared} {h₀ : Heap} {L : Addr} {m : Str → Option Value} {news : List (Addr × Obj)}
theorem slice_tup {value slice : PySem.Expr} {t : Addr} {vs zs : List Value} {n a : Nat} {u : Tok} {Q : Value → Shared → Prop}
    (F : Fr h₀ L s.heap m) (N : News h₀ L s.heap news) (hm : (t, tupO vs n) ∈ news) (h1 : 1 ≤ a) (ha : a ≤ vs.length) (hz : vs.length ≤ sizeLine) (e : vs.drop a = zs)
    (h : ∀ D h', Fr h₀ L h' m → News h₀ L h' ((D, tupO zs 0) :: news) → (∀ q ∈ news, q.1 < D) → Q (.ref D) { s with heap := h' })
    (hs : subscripted slice false (.ref t) (.ref s.heap.objs.size) = operate [.ref s.heap.objs.size, .ref t] (getItem (.ref t) (.ref s.heap.objs.size)) )
    (hg : ∀ r, letTemporaryGo value (.ref t) r = pure ()) :
    wpAny (model prog w) A (subscriptTail value slice (.ref t) (.ref s.heap.objs.size)) Q E { s with heap := s.heap.push { cls := .type "slice", data := .fields #[.int a u, .none, .none] } } := by
  subst e
  exact slice_tuple_from (hsz := by rw [List.size_toArray]; exact hz) F N (News.isTup N hm) h1 (by rw [List.size_toArray]; exact ha) (fun h' F' N' => h _ _ F' N' fun p hp => Nat.lt_succ_of_lt (Heap.lt_size (N p hp).1)) hs hg
end
theorem ln80 : True := by
  (k_with "subscriptTail" => (k_here; (with_reducible show wpAny _ _ (subscriptTail _ (PySem.Expr.Slice (some (PySem.Expr.Constant (Const.int 1) _ _)) none none _) (Value.ref _) (Value.ref _)) _ _ _); k_dflt (refine' slice_tup (a := 1) (by first | (k_asm) | fail "no") (by first | (k_asm) | fail "no") (by first | (k_mem) | fail "no") (by first | (decide) | fail "no") (by first | ((simp only [List.length_cons, List.length_nil]; decide)) | fail "no") (by first | ((simp only [List.length_cons, List.length_nil]; decide)) | fail "no") (by first | (exact rfl) | fail "no") ?_ (by first | (with_unfolding_all rfl) | fail "no") (by first | ((intro _; with_unfolding_all rfl)) | fail "no")); intro D' h' F' N' l1; (try k_lt l1); (try dsimp only); (try k_extra "fold")))
  (k_with "subscriptTail" => (k_here; (with_reducible show wpAny _ _ (subscriptTail _ (PySem.Expr.Slice (some (PySem.Expr.Constant (Const.int 2) _ _)) none none _) (Value.ref _) (Value.ref _)) _ _ _); k_dflt (refine' slice_tup (a := 2) (by first | (k_asm) | fail "no") (by first | (k_asm) | fail "no") (by first | (k_mem) | fail "no") (by first | (decide) | fail "no") (by first | ((simp only [List.length_cons, List.length_nil]; decide)) | fail "no") (by first | ((simp only [List.length_cons, List.length_nil]; decide)) | fail "no") (by first | (exact rfl) | fail "no") ?_ (by first | (with_unfolding_all rfl) | fail "no") (by first | ((intro _; with_unfolding_all rfl)) | fail "no")); intro D' h' F' N' l1; (try k_lt l1); (try dsimp only); (try k_extra "fold")))
  trivial

theorem lts_nil {l : List (Addr × Obj)} : ∀ p ∈ ([] : List (Addr × Obj)), AllLt p.1 l := fun _ h => (nomatch h)
theorem lts_cons {a : Addr} {o : Obj} {xs l : List (Addr × Obj)} (h : AllLt a l) (t : ∀ p ∈ xs, AllLt p.1 l) : ∀ p ∈ (a, o) :: xs, AllLt p.1 l := fun p hp => by
  rcases List.mem_cons.mp hp with rfl | hp
  · exact h
  · exact t p hp
theorem allLt_mem {a : Addr} : ∀ {l : List (Addr × Obj)}, AllLt a l → ∀ p ∈ l, p.1 < a
  | [], _, _, hp => nomatch hp
  | x :: r, h, p, hp => by
    unfold AllLt at h
    rcases List.mem_cons.mp hp with e | hp
    · rw [e]; exact h.1
    · exact allLt_mem (l := r) h.2 p hp
theorem RowIn.mk2 {news : List (Addr × Obj)} {a k ll : Addr} {n n' n'' : Nat} {vs ls : List Value} {b : Sts} {t t' nv lv g lv' g' : Bool} {l : List Str} (h1 : (a, tupO [.ref k, .bool t, .bool nv, .ref ll, .bool lv, .bool g] n) ∈ news) (h2 : (k, tupO vs n') ∈ news) (h3 : StsIn news vs b) (h4 : (ll, listOf ls.toArray n'') ∈ news) (h5 : LabsIn ls l) (e : t = t') (e2 : lv = lv') (e3 : g = g') : RowIn news (.ref a) ⟨b, t', nv, l, lv', g'⟩ := by
  subst e; subst e2; subst e3; exact .mk h1 h2 h3 h4 h5
theorem put_fin {h₀ h' : Heap} {L D : Addr} {o : Obj} {m : Str → Option Value} {news tl0 led : List (Addr × Obj)} {row : Row} {r : Value} {tk' : Nat} {sG : Array GenState} {sD : Drawn} {sO : OsState} {Q : Value → Shared → Prop}
    (ret : ∀ r tl h' tk', Fr h₀ L h' m → News h₀ L h' (tl ++ news) → (∀ p ∈ tl, ∀ q ∈ news, q.1 < p.1) → RowIn (tl ++ news) r row → Q r { heap := h', gens := sG, drawn := sD, toks := tk', os := sO })
    (xs : List (Addr × Obj)) (F : Fr h₀ L h' m) (N : News h₀ L h' led) (e : led = xs ++ (D, o) :: (tl0 ++ news)) (lD : ∀ q ∈ news, q.1 < D) (lt0 : ∀ p ∈ tl0, ∀ q ∈ news, q.1 < p.1) (l : ∀ p ∈ xs, AllLt p.1 (tl0 ++ news)) (R : RowIn led r row) : Q r { heap := h', gens := sG, drawn := sD, toks := tk', os := sO } := by
  have e2 : led = (xs ++ (D, o) :: tl0) ++ news := by rw [e, List.append_assoc, List.cons_append]
  rw [e2] at N R
  refine ret r _ h' tk' F N (fun p hp q hq => ?_) R
  rcases List.mem_append.mp hp with hp | hp
  · exact allLt_mem (l p hp) q (sub_left _ hq)
  · rcases List.mem_cons.mp hp with rfl | hp
    · exact lD q hq
    · exact lt0 p hp q hq
/-! «and» of written items: one way, not one for each value -/
section
variable {w : World} {A : Around} {E : Value → Shared → Prop} {h₀ h : Heap} {ge : Array GenState} {dr : Drawn} {os : OsState} {L a : Addr} {m : Str → Option Value} {cn : Str} {cs : Scope} {ccd : Value} {news : List (Addr × Obj)} {env : Env}
noncomputable def EvB (w : World) (A : Around) (env : Env) (E : Value → Shared → Prop) (h : Heap) (ge : Array GenState) (dr : Drawn) (os : OsState) (e : PySem.Expr) (b : Bool) : Prop :=
  ∀ (tk : Nat) (Q : Value → Shared → Prop), (∀ tk', Q (.bool b) { heap := h, gens := ge, drawn := dr, toks := tk', os := os }) → wpAny (model pg w) A (eval e env) Q E { heap := h, gens := ge, drawn := dr, toks := tk, os := os }
theorem ev_item {x : Str} {t : Addr} {p : Value} {b : Bool} {r : List Value} {n k : Nat} {p1 p2 p3 : Pos} (F : Fr h₀ L h m) (N : News h₀ L h news) (hv : m x = some (.ref t)) (hm : (t, tupO (p :: .bool b :: r) n) ∈ news)
    (hk : cs.kind = .function) (hx : (envOf cn cs L a ccd).kindOf x = some .local) (hd : (x == ("__debug__" : Str)) = false) :
    EvB w A (envOf cn cs L a ccd) E h ge dr os (.Subscript (.Name x p1) (.Constant (.int 1) k p2) p3) b := fun tk Q H => by
  refine Subscript_ (nameX_L (s := { heap := h, gens := ge, drawn := dr, toks := tk, os := os }) F hv ?_ hk hx hd)
  refine wpAny_Constant_int ?_
  exact item1 (News.isTup (h := h) N hm) (H _) (by with_unfolding_all rfl)
theorem ev_not {x : Str} {b : Bool} {p1 p3 : Pos} (F : Fr h₀ L h m) (hv : m x = some (.bool b))
    (hk : cs.kind = .function) (hx : (envOf cn cs L a ccd).kindOf x = some .local) (hd : (x == ("__debug__" : Str)) = false) :
    EvB w A (envOf cn cs L a ccd) E h ge dr os (.UnaryOp .Not (.Name x p1) p3) (!b) := fun tk Q H => by
  refine UnaryOp_ (nameX_L (s := { heap := h, gens := ge, drawn := dr, toks := tk, os := os }) F hv ?_ hk hx hd)
  exact not_of (wpAny_truthy_bool (H _))
theorem ev_and2 {e1 e2 : PySem.Expr} {pos : Pos} {b1 b2 : Bool} {tk : Nat} {Q : Value → Shared → Prop} (h1 : EvB w A env E h ge dr os e1 b1) (h2 : EvB w A env E h ge dr os e2 b2)
    (k : ∀ tk', Q (.bool (b1 && b2)) { heap := h, gens := ge, drawn := dr, toks := tk', os := os }) : wpAny (model pg w) A (eval (.BoolOp .And [e1, e2] pos) env) Q E { heap := h, gens := ge, drawn := dr, toks := tk, os := os } := by
  refine wpAny_And2 (h1 tk _ fun tk' => wpAny_truthy_bool ?_)
  cases b1
  · exact k tk'
  · exact h2 tk' Q k
theorem ev_and3 {e1 e2 e3 : PySem.Expr} {pos : Pos} {b1 b2 b3 : Bool} {tk : Nat} {Q : Value → Shared → Prop} (h1 : EvB w A env E h ge dr os e1 b1) (h2 : EvB w A env E h ge dr os e2 b2) (h3 : EvB w A env E h ge dr os e3 b3)
    (k : ∀ tk', Q (.bool (b1 && (b2 && b3))) { heap := h, gens := ge, drawn := dr, toks := tk', os := os }) : wpAny (model pg w) A (eval (.BoolOp .And [e1, e2, e3] pos) env) Q E { heap := h, gens := ge, drawn := dr, toks := tk, os := os } := by
  refine BoolOp_and (h1 tk _ fun tk' => wpAny_truthy_bool ?_)
  cases b1
  · exact k tk'
  · exact ev_and2 h2 h3 k
end
theorem ln81 : True := by
  (k_with "eval BoolOp" => (k_here; k_dflt (first | (refine' ev_and2 (ev_item (by first | k_asm | fail "no") (by first | k_asm | fail "no") (by first | exact rfl | fail "no") (by first | k_mem | fail "no") (by first | exact rfl | fail "no") (by first | exact rfl | fail "no") (by first | decide | fail "no")) (ev_item (by first | k_asm | fail "no") (by first | k_asm | fail "no") (by first | exact rfl | fail "no") (by first | k_mem | fail "no") (by first | exact rfl | fail "no") (by first | exact rfl | fail "no") (by first | decide | fail "no")) ?_; k_whole) | (refine' ev_and3 (ev_item (by first | k_asm | fail "no") (by first | k_asm | fail "no") (by first | exact rfl | fail "no") (by first | k_mem | fail "no") (by first | exact rfl | fail "no") (by first | exact rfl | fail "no") (by first | decide | fail "no")) (ev_item (by first | k_asm | fail "no") (by first | k_asm | fail "no") (by first | exact rfl | fail "no") (by first | k_mem | fail "no") (by first | exact rfl | fail "no") (by first | exact rfl | fail "no") (by first | decide | fail "no")) (ev_item (by first | k_asm | fail "no") (by first | k_asm | fail "no") (by first | exact rfl | fail "no") (by first | k_mem | fail "no") (by first | exact rfl | fail "no") (by first | exact rfl | fail "no") (by first | decide | fail "no")) ?_; k_whole) | (refine' ev_and3 (ev_item (by first | k_asm | fail "no") (by first | k_asm | fail "no") (by first | exact rfl | fail "no") (by first | k_mem | fail "no") (by first | exact rfl | fail "no") (by first | exact rfl | fail "no") (by first | decide | fail "no")) (ev_item (by first | k_asm | fail "no") (by first | k_asm | fail "no") (by first | exact rfl | fail "no") (by first | k_mem | fail "no") (by first | exact rfl | fail "no") (by first | exact rfl | fail "no") (by first | decide | fail "no")) (ev_not (by first | k_asm | fail "no") (by first | exact rfl | fail "no") (by first | exact rfl | fail "no") (by first | exact rfl | fail "no") (by first | decide | fail "no")) ?_; k_whole)); intro tk9; (try dsimp only)))
  (k_with "subscriptTail Name Constant ref int" => (k_here; (with_reducible show wpAny _ _ (subscriptTail _ _ (Value.ref _) (Value.int 0 _)) _ _ _); k_dflt (first | (refine' item0 (by first | (exact News.isTup (by k_asm) (by k_mem)) | fail "no") ?_ (by first | (with_unfolding_all rfl) | fail "no"); k_whole) | (refine' item_listAt (by first | (exact News.isList (by k_asm) (by k_mem)) | fail "no") (by first | (decide) | fail "no") (by first | (decide) | fail "no") (by first | (exact rfl) | fail "no") ?_ (by first | (with_unfolding_all rfl) | fail "no"); k_whole))))
  (k_with "subscriptTail Name Constant ref int" => (k_here; (with_reducible show wpAny _ _ (subscriptTail _ _ (Value.ref _) (Value.int 1 _)) _ _ _); k_dflt (first | (refine' item1 (by first | (exact News.isTup (by k_asm) (by k_mem)) | fail "no") ?_ (by first | (with_unfolding_all rfl) | fail "no"); k_whole) | (refine' item_listAt (by first | (exact News.isList (by k_asm) (by k_mem)) | fail "no") (by first | (decide) | fail "no") (by first | (decide) | fail "no") (by first | (exact rfl) | fail "no") ?_ (by first | (with_unfolding_all rfl) | fail "no"); k_whole))))
  trivial

theorem item4 {prog : Program} {w : World} {A : Around} {E : Value → Shared → Prop} {s : Shared} {value slice : PySem.Expr} {t : Addr} {a b c d x : Value} {r : List Value} {u : Tok} {Q : Value → Shared → Prop} (ht : IsTup s.heap t (a :: b :: c :: d :: x :: r).toArray) (h : Q x s)
    (hs : subscripted slice false (.ref t) (.int 4 u) = operate [.ref t, .int 4 u] (getItem (.ref t) (.int 4 u)) ) :
    wpAny (model prog w) A (subscriptTail value slice (.ref t) (.int 4 u)) Q E s := item_tupleT ht (by decide) (by decide) (j := 4) (by simp [seqIndex?]; omega) rfl h hs
theorem ln82 : True := by
  (k_with "subscriptTail Name Constant ref int" => (k_here; (with_reducible show wpAny _ _ (subscriptTail _ _ (Value.ref _) (Value.int 4 _)) _ _ _); k_dflt (refine' item4 (by first | (exact News.isTup (by k_asm) (by k_mem)) | fail "no") ?_ (by first | (with_unfolding_all rfl) | fail "no"); k_whole)))
  (k_with "subscriptTail Name Constant ref int" => (k_here; (with_reducible show wpAny _ _ (subscriptTail _ _ (Value.ref _) (Value.int 2 _)) _ _ _); k_dflt (first | (refine' item2 (by first | (exact News.isTup (by k_asm) (by k_mem)) | fail "no") ?_ (by first | (with_unfolding_all rfl) | fail "no"); k_whole) | (refine' item_listAt (by first | (exact News.isList (by k_asm) (by k_mem)) | fail "no") (by first | (decide) | fail "no") (by first | (decide) | fail "no") (by first | (exact rfl) | fail "no") ?_ (by first | (with_unfolding_all rfl) | fail "no"); k_whole))))
  trivial

section
variable {w : World} {mean : ExcName → Option Value} {mg mb : Str → Option Value} {news : List (Addr × Obj)}
set_option maxRecDepth 100000 in
set_option maxHeartbeats 8000000 in
theorem law_put_spec {way : Int} {t : Tok} {v1 v2 v3 : Value} {r1 r2 r3 : Row} (hw0 : 0 ≤ way) (hw1 : way < 6) (R1 : RowIn news v1 r1) (R2 : RowIn news v2 r2) (R3 : RowIn news v3 r3) (z1 : r1.labels.length ≤ 5) (z2 : r2.labels.length ≤ 5) (z3 : r3.labels.length ≤ 5) :
    Call w mean mg mb 8 215 [.int way t, v1, v2, v3] news fun r tl => RowIn (tl ++ news) r (Row.put way r1 r2 r3) := by
  intro dp un gd cn cs a ccd cl outer A₀ base h₀ L m sH sG sD sT sO Q E B F X N T hk hdp hun ret
  have RS : RowsIn news [v1, v2, v3] [r1, r2, r3] := .cons R1 (.cons R2 (.cons R3 .nil))
  have RS1 := R1
  have RS2 := R2
  have RS3 := R3
  obtain ⟨p1, p2, p3, p4, p5⟩ := R1
  obtain ⟨q1, q2, q3, q4, q5⟩ := R2
  obtain ⟨o1, o2, o3, o4, o5⟩ := R3
  refine wpAny_call ?_
  k_dflt ktr_enter
  k_steps
  rename Fr _ _ _ _ => F9
  rename News _ _ _ _ => N9
  refine Held.intro ⟨_, _, 0, fun i ys tl => BlksIn (tl ++ news) ys (([r1, r2, r3].map Row.body).take i) ∧ ∀ p ∈ tl, ∀ q ∈ news, q.1 < p.1, _, _, _, rfl, .head _, (by simp only [List.length_cons, List.length_nil]; decide), F9, N9, ⟨.nil, fun _ h => (nomatch h)⟩, ?_, ?_⟩
  · intro C i v ys tl h tk own mC E' hv hG ho hm' SF SN F8 N8
    clear F9 N9
    obtain ⟨hG, hG2⟩ := hG
    obtain ⟨r, hr, R⟩ := RS.get hv
    obtain ⟨g1, g2, g3, g4, g5⟩ := R
    have hn := F8.ns
    try k_extra "fold"
    k_steps
    refine Held.intro ⟨_, _, rfl, SF, SN, ?_⟩
    rw [if_pos rfl]
    try k_extra "fold"
    k_steps
    rename News _ _ _ _ => N7
    clear F8 N7
    refine Held.intro ?_
    try k_extra "fold"
    refine (Call.use (law_block_spec (news := own ++ (tl ++ _)) (sub_left _ (sub_left _ (.tail _ g2)))) (by k_asm) SF.out (by k_asm) SN.out (by k_asm) (by exact rfl) (by k_room) (by first | exact roomU (by assumption) (by first | decide | omega) | exact roomV (by assumption) (by first | decide | omega) | ((try simp only [units_in1, units_deeper, Around.mark_units, units_caller]); (try dsimp only [ktrTop]); omega)) ?_)
    rintro r9 tl9 h9 tk9 F9 N9 l9 ⟨a9, t9, u9, rfl, e8⟩
    refine Held.intro ⟨h9, _, tl9, rfl, F9, fun p hp => N9 p ?_, ?_, ?_, ?_⟩
    · rcases List.mem_append.mp hp with hp | hp
      · exact List.mem_append.mpr (.inr (List.mem_append.mpr (.inl hp)))
      · rcases List.mem_append.mp hp with hp | hp
        · exact List.mem_append.mpr (.inl hp)
        · exact List.mem_append.mpr (.inr (List.mem_append.mpr (.inr hp)))
    · intro p hp b hb e
      obtain ⟨q, hq, rfl⟩ := List.mem_map.mp hb
      exact absurd (l9 q hq p (List.mem_append.mpr (.inl hp))) (by rw [e]; exact Nat.lt_irrefl _)
    · have e2 : ([r1, r2, r3].map Row.body).take (i + 1) = ([r1, r2, r3].map Row.body).take i ++ [r.body] := by
        rw [List.take_add_one, List.getElem?_map, hr]; rfl
      rw [e2, e8]
      exact (hG.mono (fun p hp => .tail _ hp)).snoc (.mk (.head _) (.tail _ (sub_left _ g2)) (g3.mono fun p hp => .tail _ (sub_left _ hp)))
    · intro p hp q hq
      rcases List.mem_append.mp hp with hp | hp
      · exact l9 p hp q (sub_left _ (sub_left _ (.tail _ hq)))
      · exact hG2 p hp q hq
  · intro D h' tk ys tl k hD hG F8 N8
    obtain ⟨hG, hG2⟩ := hG
    have lD := news_lt N9 hD
    obtain ⟨tl0, N7, hx0, lt0, hB⟩ := put_pack N8 hG2 (by first | assumption | exact allLt_of (by assumption) | tbn_find) hG
    obtain ⟨k1, k2, k3, rfl, b1, b2, b3⟩ := BlksIn.three (x := r1.body) (y := r2.body) (z := r3.body) hB
    clear F9 N9 N8 hG hG2 hB
    have hDn : ∀ q ∈ news, q.1 < D := fun q hq => lD q (.tail _ hq)
    have R1 := RS1.mono (sub_left (a := tl0))
    have R2 := RS2.mono (sub_left (a := tl0))
    have R3 := RS3.mono (sub_left (a := tl0))
    have hz12 : ∀ r ∈ [r1, r2], r.labels.length ≤ 5 := fun r hr => by
      rcases List.mem_cons.mp hr with rfl | hr
      · exact z1
      · rw [List.mem_singleton.mp hr]; exact z2
    have hz123 : ∀ r ∈ [r1, r2, r3], r.labels.length ≤ 5 := fun r hr => by
      rcases List.mem_cons.mp hr with rfl | hr
      · exact z1
      · rcases List.mem_cons.mp hr with rfl | hr
        · exact z2
        · rw [List.mem_singleton.mp hr]; exact z3
    replace p1 := sub_left (a := tl0) _ p1
    replace p2 := sub_left (a := tl0) _ p2
    replace p3 := p3.mono (sub_left (a := tl0))
    replace p4 := sub_left (a := tl0) _ p4
    replace q1 := sub_left (a := tl0) _ q1
    replace q2 := sub_left (a := tl0) _ q2
    replace q3 := q3.mono (sub_left (a := tl0))
    replace q4 := sub_left (a := tl0) _ q4
    replace o1 := sub_left (a := tl0) _ o1
    replace o2 := sub_left (a := tl0) _ o2
    replace o3 := o3.mono (sub_left (a := tl0))
    replace o4 := sub_left (a := tl0) _ o4
    clear RS RS1 RS2 RS3
    try k_extra "fold"
    k_steps
    · rename Fr _ _ _ _ => F9
      rename News _ _ _ _ => N9
      rename way = 0 => e0
      subst e0
      exact put_fin ret [_, _, _, _] F9 N9 rfl hDn lt0 (lts_cons (by tbn_find) (lts_cons (by tbn_find) (lts_cons (by tbn_find) (lts_cons (by tbn_find) lts_nil)))) (.mk2 (by k_mem) (by k_mem) (.cons (.blk (b1.mono (sub_tail (sub_tail (sub_tail (sub_tail (sub_tail sub_self))))))) .nil) (by k_mem) p5 rfl rfl rfl)
    · rename Fr _ _ _ _ => F9
      rename News _ _ _ _ => N9
      refine Held.intro ?_
      try k_extra "fold"
      refine (Call.use (law_needs_spec (.head _) (rs := [r1, r2]) (.cons (R1.mono (sub_tail (sub_tail (sub_tail (sub_tail (sub_tail sub_self)))))) (.cons (R2.mono (sub_tail (sub_tail (sub_tail (sub_tail (sub_tail sub_self)))))) .nil)) (by simp only [List.length_cons, List.length_nil]; decide) hz12) (by k_asm) F9 (by k_asm) N9 (by k_asm) (by exact rfl) (by k_room) (by first | exact roomU (by assumption) (by first | decide | omega) | exact roomV (by assumption) (by first | decide | omega) | ((try simp only [units_in1, units_deeper, Around.mark_units, units_caller]); (try dsimp only [ktrTop]); omega)) ?_)
      rintro r9 tl9 h9 tk9 F8 N8 l9 ⟨a9, ll9, ls9, k9, rfl, rfl, P9⟩
      obtain la := l9 _ (.head _)
      obtain lb := l9 _ (.tail _ (.head _))
      simp only [List.cons_append, List.nil_append] at N8
      clear F9 N9 l9
      dsimp only at la lb
      (obtain la := allLt_of la; simp only [AllLt, and_true] at la)
      (obtain lb := allLt_of lb; simp only [AllLt, and_true] at lb)
      try dsimp only
      try k_extra "fold"
      k_steps
      rename Fr _ _ _ _ => F9
      rename News _ _ _ _ => N9
      rename way = 1 => e0
      subst e0
      exact put_fin ret [_, _, _, _, _, _, _] F9 N9 rfl hDn lt0 (lts_cons (by tbn_find) (lts_cons (by tbn_find) (lts_cons (by tbn_find) (lts_cons (by tbn_find) (lts_cons (by tbn_find) (lts_cons (by tbn_find) (lts_cons (by tbn_find) lts_nil))))))) (.mk2 (by k_mem) (by k_mem) (.cons (.if2 (by k_mem) (b1.mono (sub_tail (sub_tail (sub_tail (sub_tail (sub_tail (sub_tail (sub_tail (sub_tail sub_self))))))))) (.blk (b2.mono (sub_tail (sub_tail (sub_tail (sub_tail (sub_tail (sub_tail (sub_tail (sub_tail sub_self))))))))))) .nil) (by k_mem) P9 rfl rfl rfl)
    · rename Fr _ _ _ _ => F9
      rename News _ _ _ _ => N9
      rename way = 2 => e0
      subst e0
      exact put_fin ret [_, _, _, _, _] F9 N9 rfl hDn lt0 (lts_cons (by tbn_find) (lts_cons (by tbn_find) (lts_cons (by tbn_find) (lts_cons (by tbn_find) (lts_cons (by tbn_find) lts_nil))))) (.mk2 (by k_mem) (by k_mem) (.cons (.if1 (by k_mem) (b1.mono (sub_tail (sub_tail (sub_tail (sub_tail (sub_tail (sub_tail sub_self)))))))) .nil) (by k_mem) p5 rfl rfl rfl)
    · rename Fr _ _ _ _ => F9
      rename News _ _ _ _ => N9
      refine Held.intro ?_
      try k_extra "fold"
      refine (Call.use (law_needs_spec (.head _) (rs := [r1, r2, r3]) (.cons (R1.mono (sub_tail (sub_tail (sub_tail (sub_tail (sub_tail (sub_tail sub_self))))))) (.cons (R2.mono (sub_tail (sub_tail (sub_tail (sub_tail (sub_tail (sub_tail sub_self))))))) (.cons (R3.mono (sub_tail (sub_tail (sub_tail (sub_tail (sub_tail (sub_tail sub_self))))))) .nil))) (by simp only [List.length_cons, List.length_nil]; decide) hz123) (by k_asm) F9 (by k_asm) N9 (by k_asm) (by exact rfl) (by k_room) (by first | exact roomU (by assumption) (by first | decide | omega) | exact roomV (by assumption) (by first | decide | omega) | ((try simp only [units_in1, units_deeper, Around.mark_units, units_caller]); (try dsimp only [ktrTop]); omega)) ?_)
      rintro r9 tl9 h9 tk9 F8 N8 l9 ⟨a9, ll9, ls9, k9, rfl, rfl, P9⟩
      obtain la := l9 _ (.head _)
      obtain lb := l9 _ (.tail _ (.head _))
      simp only [List.cons_append, List.nil_append] at N8
      clear F9 N9 l9
      dsimp only at la lb
      (obtain la := allLt_of la; simp only [AllLt, and_true] at la)
      (obtain lb := allLt_of lb; simp only [AllLt, and_true] at lb)
      try dsimp only
      try k_extra "fold"
      k_steps
      rename Fr _ _ _ _ => F9
      rename News _ _ _ _ => N9
      rename way = 3 => e0
      subst e0
      exact put_fin ret [_, _, _, _, _, _, _, _] F9 N9 rfl hDn lt0 (lts_cons (by tbn_find) (lts_cons (by tbn_find) (lts_cons (by tbn_find) (lts_cons (by tbn_find) (lts_cons (by tbn_find) (lts_cons (by tbn_find) (lts_cons (by tbn_find) (lts_cons (by tbn_find) lts_nil)))))))) (.mk2 (by k_mem) (by k_mem) (.cons (.if2 (by k_mem) (b1.mono (sub_tail (sub_tail (sub_tail (sub_tail (sub_tail (sub_tail (sub_tail (sub_tail (sub_tail sub_self)))))))))) (.if2 (by k_mem) (b2.mono (sub_tail (sub_tail (sub_tail (sub_tail (sub_tail (sub_tail (sub_tail (sub_tail (sub_tail sub_self)))))))))) (.blk (b3.mono (sub_tail (sub_tail (sub_tail (sub_tail (sub_tail (sub_tail (sub_tail (sub_tail (sub_tail sub_self))))))))))))) .nil) (by k_mem) P9 rfl rfl rfl)
    · rename Fr _ _ _ _ => F9
      rename News _ _ _ _ => N9
      refine Held.intro ?_
      try k_extra "fold"
      refine (Call.use (law_needs_spec (.head _) (rs := [r1, r2]) (.cons (R1.mono (sub_tail (sub_tail sub_self))) (.cons (R2.mono (sub_tail (sub_tail sub_self))) .nil)) (by simp only [List.length_cons, List.length_nil]; decide) hz12) (by k_asm) F9 (by k_asm) N9 (by k_asm) (by exact rfl) (by k_room) (by first | exact roomU (by assumption) (by first | decide | omega) | exact roomV (by assumption) (by first | decide | omega) | ((try simp only [units_in1, units_deeper, Around.mark_units, units_caller]); (try dsimp only [ktrTop]); omega)) ?_)
      rintro r9 tl9 h9 tk9 F8 N8 l9 ⟨a9, ll9, ls9, k9, rfl, rfl, P9⟩
      obtain la := l9 _ (.head _)
      obtain lb := l9 _ (.tail _ (.head _))
      simp only [List.cons_append, List.nil_append] at N8
      clear F9 N9 l9
      dsimp only at la lb
      (obtain la := allLt_of la; simp only [AllLt, and_true] at la)
      (obtain lb := allLt_of lb; simp only [AllLt, and_true] at lb)
      try dsimp only
      try k_extra "fold"
      k_steps
      rename Fr _ _ _ _ => F9
      rename News _ _ _ _ => N9
      refine Held.intro ?_
      try k_extra "fold"
      refine (Call.use (law_switch_spec (.head _) (by simp only [List.length_cons, List.length_nil]; decide)) (by k_asm) F9 (by k_asm) N9 (by k_asm) (by exact rfl) (by k_room) (by first | exact roomU (by assumption) (by first | decide | omega) | exact roomV (by assumption) (by first | decide | omega) | ((try simp only [units_in1, units_deeper, Around.mark_units, units_caller]); (try dsimp only [ktrTop]); omega)) ?_)
      rintro r9 tl9 h9 tk9 F8 N8 l9 ⟨a8, b8, t8, u8, rfl, rfl⟩
      obtain lc := l9 _ (.head _)
      obtain ld := l9 _ (.tail _ (.head _))
      simp only [List.cons_append, List.nil_append] at N8
      clear F9 N9 l9
      dsimp only at lc ld
      (obtain lc := allLt_of lc; simp only [AllLt, and_true] at lc)
      (obtain ld := allLt_of ld; simp only [AllLt, and_true] at ld)
      try dsimp only
      try k_extra "fold"
      k_steps
      rename Fr _ _ _ _ => F9
      rename News _ _ _ _ => N9
      rename way = 4 => e0
      subst e0
      exact put_fin ret [_, _, _, _, _, _, _, _, _, _, _] F9 N9 rfl hDn lt0 (lts_cons (by tbn_find) (lts_cons (by tbn_find) (lts_cons (by tbn_find) (lts_cons (by tbn_find) (lts_cons (by tbn_find) (lts_cons (by tbn_find) (lts_cons (by tbn_find) (lts_cons (by tbn_find) (lts_cons (by tbn_find) (lts_cons (by tbn_find) (lts_cons (by tbn_find) lts_nil))))))))))) (.mk2 (by k_mem) (by k_mem) (.cons (.sw (by k_mem) .none (by k_mem) (Nat.le_of_ble_eq_true rfl) (.cons (by k_mem) .some (by k_mem) (p3.mono (sub_tail (sub_tail (sub_tail (sub_tail (sub_tail (sub_tail (sub_tail (sub_tail (sub_tail (sub_tail (sub_tail (sub_tail sub_self))))))))))))) (.cons (by k_mem) .none (by k_mem) (q3.mono (sub_tail (sub_tail (sub_tail (sub_tail (sub_tail (sub_tail (sub_tail (sub_tail (sub_tail (sub_tail (sub_tail (sub_tail sub_self))))))))))))) .nil))) .nil) (by k_mem) P9 rfl rfl rfl)
    · rename Fr _ _ _ _ => F9
      rename News _ _ _ _ => N9
      refine Held.intro ?_
      try k_extra "fold"
      refine (Call.use (law_for2_spec (by k_mem) .none) (by k_asm) F9 (by k_asm) N9 (by k_asm) (by exact rfl) (by k_room) (by first | exact roomU (by assumption) (by first | decide | omega) | exact roomV (by assumption) (by first | decide | omega) | ((try simp only [units_in1, units_deeper, Around.mark_units, units_caller]); (try dsimp only [ktrTop]); omega)) ?_)
      rintro r9 tl9 h9 tk9 F8 N8 l9 ⟨a8, b8, t8, u8, t7, u7, rfl, rfl⟩
      obtain lc := l9 _ (.head _)
      obtain ld := l9 _ (.tail _ (.head _))
      simp only [List.cons_append, List.nil_append] at N8
      clear F9 N9 l9
      dsimp only at lc ld
      (obtain lc := allLt_of lc; simp only [AllLt, and_true] at lc)
      (obtain ld := allLt_of ld; simp only [AllLt, and_true] at ld)
      try dsimp only
      try k_extra "fold"
      k_steps
      rename Fr _ _ _ _ => F9
      rename News _ _ _ _ => N9
      obtain rfl : way = 5 := by omega
      exact put_fin ret [_, _, _, _] F9 N9 rfl hDn lt0 (lts_cons (by tbn_find) (lts_cons (by tbn_find) (lts_cons (by tbn_find) (lts_cons (by tbn_find) lts_nil)))) (.mk2 (by k_mem) (by k_mem) (.cons (.for_ (by k_mem) .none .none (.mk (by k_mem) (by k_mem) (p3.mono (sub_tail (sub_tail (sub_tail (sub_tail (sub_tail sub_self)))))))) .nil) (by k_mem) p5 rfl rfl rfl)
end
end
section
set_option tactic.hygienic false
theorem ln83 : True := by
  k_with_none
  (k_with "room" => first | exact roomE (by assumption) | exact roomD (by assumption) (by first | decide | omega) | ((try simp only [depth_mark, depth_under_make, depth_under_kw, depth_in1, depth_deeper, depth_caller]); (try dsimp only [ktrTop]); omega))
  (k_with "mem" => first | exact List.mem_cons_self | (refine List.mem_cons_of_mem _ ?_; first | ktr_member | k_mem))
  (k_with "enter" => (refine' code_def (by first | (k_asm) | fail "no") (by first | (k_asm) | fail "no") (by first | (k_asm) | fail "no") (by first | (k_asm) | fail "no") (by first | (k_asm) | fail "no") (by first | (exact rfl) | fail "no") (by first | (exact rfl) | fail "no") (by first | (first | exact rfl | assumption) | fail "no") (by first | (k_is) | fail "no") (by first | (k_is) | fail "no") (by first | (k_room) | fail "no") (by first | (first | exact BindsTo.of_eq rfl | exact binds_K (by k_in) rfl (by k_is) rfl rfl rfl) | fail "no") (by first | (exact locs rfl) | fail "no") ?_ (by first | (exact rfl) | fail "no") (by first | (exact rfl) | fail "no") (by first | (exact rfl) | fail "no") (by first | (decide) | fail "no"); k_whole; intro g' L' h' FG' F' N' B' X' T'; (try dsimp only); (try k_fold); (try (refine (let en9 := _; let ar9 := Around.deeper _ en9; (?_ : wpAny _ ar9 (execs _ en9) _ _ _))))))
  (k_with "exec For Name Name cons nil" => (k_here; (rename Fr _ _ _ _ => lF'); (with_unfolding_all refine' For_invVF lF' (by first | (exact rfl) | fail "no") (by first | (exact rfl) | fail "no") ?_; k_whole)))
  (k_with "exec For Name Call cons nil" => (k_here; (rename Fr _ _ _ _ => lF'); (with_unfolding_all refine' For_invVF lF' (by first | (exact rfl) | fail "no") (by first | (exact rfl) | fail "no") ?_; k_whole)))
  (k_with "pyIter ref" => (refine Held.out ?_))
  (k_with "subscriptTail" => (k_here; (with_reducible show wpAny _ _ (subscriptTail _ _ (Value.ref _) (Value.int 0 _)) _ _ _); k_dflt (refine' item0 (by first | (exact News.isTup (by k_asm) (by k_mem)) | fail "no") ?_ (by first | (with_unfolding_all rfl) | fail "no"); k_whole)))
  (k_with "compareOp NotIn str ref" => (k_here; (with_reducible show wpAny _ _ (compareOp CmpOp.NotIn (Value.str _ _) (Value.ref _)) _ _ _); (with_unfolding_all refine' notin_tuple_strs (by first | ((refine' tupK (by first | (k_in) | fail "no") (by first | (k_dflt k_is) | fail "no"))) | fail "no") (by first | (repeat constructor) | fail "no") ?_; k_whole)))
  (k_with "ite" => (refine ite_no (by first | ((simp only [beq_eq_false_iff_ne, ne_eq]; assumption)) | fail "no") ?_))
  (k_with "TurnPost" => (dsimp only [TurnPost]))
  trivial

/-! ## the plain law -/
noncomputable def uu : Str := Str.ofString "U"
noncomputable def Dead (s : CSt) : Prop := uu ∈ s.told ∧ uu ∉ s.used
noncomputable def DeadO (r : Option CSt) : Prop := ∀ s', r = some s' → Dead s'
structure Acts (f : CSt → Option CSt) (bad : Prop) (ls : List Str) : Prop where
  dead : ∀ s, uu ∉ s.used → (bad ∨ Dead s ∨ ∃ x ∈ ls, x ∈ s.told) → DeadO (f s)
  live : ∀ s, uu ∉ s.used → ¬bad → (∀ x ∈ ls, x ∉ s.told) → ∃ s', f s = some s' ∧ s'.told = s.told ++ ls ∧ (∀ x ∈ s.used, x ∈ s'.used) ∧ (∀ x ∈ ls, x ∈ s'.used) ∧ uu ∉ s'.used
theorem Acts.id : Acts some False [] := by
  constructor
  · intro s _ h s' e
    cases e
    rcases h with h | h | ⟨x, h, _⟩
    · exact h.elim
    · exact h
    · exact nomatch h
  · intro s h _ _
    exact ⟨s, rfl, (List.append_nil _).symm, fun _ h => h, fun _ h => (nomatch h), h⟩
theorem Acts.congr {f : CSt → Option CSt} {b b' : Prop} {l : List Str} (h : Acts f b l) (e : b ↔ b') : Acts f b' l := by
  rw [← propext e]; exact h
theorem Acts.bind {f g : CSt → Option CSt} {b1 b2 : Prop} {l1 l2 : List Str} (hf : Acts f b1 l1) (hg : Acts g b2 l2) : Acts (fun s => (f s).bind g) (b1 ∨ b2 ∨ ∃ x ∈ l1, x ∈ l2) (l1 ++ l2) := by
  constructor
  · intro s hu h
    cases e : f s with
    | none => intro s' e'; cases e'
    | some s1 =>
      show DeadO (g s1)
      by_cases h1 : b1 ∨ Dead s ∨ ∃ x ∈ l1, x ∈ s.told
      · have hd := hf.dead s hu h1 s1 e
        exact hg.dead s1 hd.2 (.inr (.inl hd))
      · have n1 : ¬b1 := fun h => h1 (.inl h)
        have n2 : ¬Dead s := fun h => h1 (.inr (.inl h))
        have n3 : ∀ x ∈ l1, x ∉ s.told := fun x hx hs => h1 (.inr (.inr ⟨x, hx, hs⟩))
        obtain ⟨s', e', t1, t2, t3, t4⟩ := hf.live s hu n1 n3
        rw [e] at e'
        cases e'
        refine hg.dead s1 t4 ?_
        rcases h with (h | h | ⟨x, hx, hy⟩) | h | ⟨x, hx, hy⟩
        · exact absurd h n1
        · exact .inl h
        · exact .inr (.inr ⟨x, hy, by rw [t1]; exact List.mem_append.mpr (.inr hx)⟩)
        · exact absurd h n2
        · rcases List.mem_append.mp hx with hx | hx
          · exact absurd hy (n3 x hx)
          · exact .inr (.inr ⟨x, hx, by rw [t1]; exact List.mem_append.mpr (.inl hy)⟩)
  · intro s hu hb hd
    have n1 : ¬b1 := fun h => hb (.inl h)
    have n2 : ¬b2 := fun h => hb (.inr (.inl h))
    obtain ⟨s1, e, t1, t2, t3, t4⟩ := hf.live s hu n1 fun x hx => hd x (List.mem_append.mpr (.inl hx))
    obtain ⟨s2, e2, u1, u2, u3, u4⟩ := hg.live s1 t4 n2 fun x hx hs => by
      rw [t1] at hs
      rcases List.mem_append.mp hs with hs | hs
      · exact hd x (List.mem_append.mpr (.inr hx)) hs
      · exact hb (.inr (.inr ⟨x, hs, hx⟩))
    refine ⟨s2, by show (f s).bind g = _; rw [e]; exact e2, by rw [u1, t1, List.append_assoc], fun x hx => u2 x (t2 x hx), fun x hx => ?_, u4⟩
    rcases List.mem_append.mp hx with hx | hx
    · exact u2 x (t3 x hx)
    · exact u3 x hx
/-- a context without labels -/
noncomputable def Bare (o : Ops) : Prop := ∀ p ∈ o, p.1 = none
structure Good (r : Row) : Prop where
  term : terms r.body = r.term
  brk : ∀ near, hbs r.body none near = (near && r.leaves)
  nofall : fallLast r.body = false
  nodup : r.never = false → r.labels.Nodup
  chk : ∀ o, Bare o → Acts (chks r.body o) (r.never = true ∨ (r.leaves = true ∧ o = []) ∨ (r.goes = true ∧ ∀ p ∈ o, p.2 = false)) r.labels
theorem Good.right {r : Row} (h : Good r) : r.right = true := by
  have hc : chkOk r.body = (!r.never && !r.leaves && !r.goes) := by
    have A := h.chk [] fun _ h => (nomatch h)
    unfold chkOk
    by_cases hb : r.never = true ∨ (r.leaves = true ∧ ([] : Ops) = []) ∨ (r.goes = true ∧ ∀ p ∈ ([] : Ops), p.2 = false)
    · have d := A.dead ⟨[], []⟩ (fun h => nomatch h) (.inl hb)
      have e2 : (!r.never && !r.leaves && !r.goes) = false := by
        rcases hb with h | ⟨h, _⟩ | ⟨h, _⟩ <;> rw [h] <;> simp
      rw [e2]
      cases e : chks r.body [] ⟨[], []⟩ with
      | none => rfl
      | some s' =>
        have := d s' e
        show usedOk s' = false
        unfold usedOk
        rw [List.all_eq_false]
        exact ⟨uu, this.1, by simpa using this.2⟩
    · obtain ⟨s', e, t1, t2, t3, t4⟩ := A.live ⟨[], []⟩ (fun h => nomatch h) hb (fun _ _ h => nomatch h)
      rw [e]
      have n1 : r.never = false := by cases q : r.never; rfl; exact absurd (.inl q) hb
      have n2 : r.leaves = false := by cases q : r.leaves; rfl; exact absurd (.inr (.inl ⟨q, rfl⟩)) hb
      have n3 : r.goes = false := by cases q : r.goes; rfl; exact absurd (.inr (.inr ⟨q, fun _ h => nomatch h⟩)) hb
      rw [n1, n2, n3]
      show usedOk s' = true
      unfold usedOk
      rw [List.all_eq_true]
      intro x hx
      rw [t1] at hx
      exact decide_eq_true (t3 x (by simpa using hx))
  unfold Row.right
  rw [hc, h.term, h.brk true]
  cases r.term <;> cases r.leaves <;> cases r.never <;> cases r.goes <;> rfl
theorem snoc_ind {α : Type} {P : List α → Prop} (h0 : P []) (h1 : ∀ xs x, P xs → P (xs ++ [x])) (xs : List α) : P xs := by
  have h : ∀ l : List α, P l.reverse := by
    intro l
    induction l with
    | nil => exact h0
    | cons x l ih => rw [List.reverse_cons]; exact h1 _ _ ih
  have := h xs.reverse
  rwa [List.reverse_reverse] at this
theorem ded_any (xs : List Str) : ∀ k, ((ded xs).any (· == k)) = decide (k ∈ xs) := by
  induction xs using snoc_ind with
  | h0 => intro k; rfl
  | h1 xs x ih =>
    intro k
    rw [ded_snoc, dedStep_any, ih]
    rw [Bool.eq_iff_iff]
    simp [List.mem_append]
theorem ded_nodup (xs : List Str) : (ded xs).length = xs.length ↔ xs.Nodup := by
  induction xs using snoc_ind with
  | h0 => exact ⟨fun _ => List.nodup_nil, fun _ => rfl⟩
  | h1 xs x ih =>
    rw [ded_snoc, dedStep_length, ded_any, List.length_append, List.length_singleton, List.nodup_append]
    have hle := ded_le xs
    by_cases hx : x ∈ xs
    · rw [if_pos (decide_eq_true hx)]
      constructor
      · intro h; omega
      · rintro ⟨_, _, h⟩; exact absurd rfl (h x hx x (.head _))
    · rw [if_neg (by simpa using hx)]
      constructor
      · intro h
        refine ⟨ih.mp (by omega), by simp, ?_⟩
        intro a ha b hb e
        rw [List.mem_singleton.mp hb] at e
        exact hx (e ▸ ha)
      · rintro ⟨h, _, _⟩
        have := ih.mpr h
        omega
theorem never_iff (rs : List Row) : neverOf rs = true ↔ ¬(labsOf rs).Nodup ∨ ∃ r ∈ rs, r.never = true := by
  unfold neverOf
  rw [Bool.or_eq_true, bne_iff_ne, List.any_eq_true]
  show ((labsOf rs).length ≠ (ded (labsOf rs)).length ∨ _) ↔ _
  rw [← ded_nodup]
  exact ⟨fun h => h.imp (fun h e => h e.symm) id, fun h => h.imp (fun h e => h e.symm) id⟩
noncomputable def badOf (rs : List Row) (o : Ops) : Prop := neverOf rs = true ∨ (rs.any Row.leaves = true ∧ o = []) ∨ (rs.any Row.goes = true ∧ ∀ p ∈ o, p.2 = false)
theorem neverOf_cons {r : Row} {rs : List Row} (h : r.never = false → r.labels.Nodup) : neverOf (r :: rs) = true ↔ r.never = true ∨ neverOf rs = true ∨ ∃ x ∈ r.labels, x ∈ labsOf rs := by
  have e : labsOf (r :: rs) = r.labels ++ labsOf rs := by unfold labsOf; rw [List.map_cons, List.flatten_cons]
  rw [never_iff, never_iff, e, List.nodup_append]
  constructor
  · rintro (h1 | ⟨r', hr, hn⟩)
    · by_cases hn : r.never = true
      · exact .inl hn
      · by_cases h2 : (labsOf rs).Nodup
        · right; right
          apply Classical.byContradiction
          intro h3
          exact h1 ⟨h (by simpa using hn), h2, fun a ha b hb e => h3 ⟨a, ha, e ▸ hb⟩⟩
        · exact .inr (.inl (.inl h2))
    · rcases List.mem_cons.mp hr with rfl | hr
      · exact .inl hn
      · exact .inr (.inl (.inr ⟨r', hr, hn⟩))
  · rintro (h1 | (h1 | ⟨r', hr, hn⟩) | ⟨x, hx, hy⟩)
    · exact .inr ⟨r, .head _, h1⟩
    · exact .inl fun h => h1 h.2.1
    · exact .inr ⟨r', .tail _ hr, hn⟩
    · exact .inl fun h => h.2.2 x hx x hy rfl
theorem acts_all (o : Ops) (ho : Bare o) : ∀ rs : List Row, (∀ r ∈ rs, Good r) → Acts (foldO (fun r s => chks r.body o s) rs) (badOf rs o) (labsOf rs)
  | [], _ => Acts.id.congr ⟨False.elim, fun h => by rcases h with h | ⟨h, _⟩ | ⟨h, _⟩ <;> exact absurd h (by decide)⟩
  | r :: rs, h => by
    have hr := h r (.head _)
    have A := (hr.chk o ho).bind (acts_all o ho rs fun r' h' => h r' (.tail _ h'))
    have e : labsOf (r :: rs) = r.labels ++ labsOf rs := by unfold labsOf; rw [List.map_cons, List.flatten_cons]
    rw [e]
    refine A.congr ?_
    unfold badOf
    rw [neverOf_cons hr.nodup, List.any_cons, List.any_cons, Bool.or_eq_true, Bool.or_eq_true]
    constructor
    · rintro ((h | ⟨h, e⟩ | ⟨h, e⟩) | (h | ⟨h, e⟩ | ⟨h, e⟩) | h)
      · exact .inl (.inl h)
      · exact .inr (.inl ⟨.inl h, e⟩)
      · exact .inr (.inr ⟨.inl h, e⟩)
      · exact .inl (.inr (.inl h))
      · exact .inr (.inl ⟨.inr h, e⟩)
      · exact .inr (.inr ⟨.inr h, e⟩)
      · exact .inl (.inr (.inr h))
    · rintro ((h | h | h) | ⟨h | h, e⟩ | ⟨h | h, e⟩)
      · exact .inl (.inl h)
      · exact .inr (.inl (.inl h))
      · exact .inr (.inr h)
      · exact .inl (.inr (.inl ⟨h, e⟩))
      · exact .inr (.inl (.inr (.inl ⟨h, e⟩)))
      · exact .inl (.inr (.inr ⟨h, e⟩))
      · exact .inr (.inl (.inr (.inr ⟨h, e⟩)))
theorem nodup_of_never {rs : List Row} (h : neverOf rs = false) : (labsOf rs).Nodup := by
  apply Classical.byContradiction
  intro h'
  rw [(never_iff rs).mpr (.inl h')] at h
  cases h
theorem chks_one (st : St) (o : Ops) (s : CSt) : chks (.cons st .nil) o s = chk1 st o s := by
  show (chk1 st o s).bind (fun s => some s) = _
  cases chk1 st o s <;> rfl
theorem Bare.snoc {o : Ops} (h : Bare o) (b : Bool) : Bare (o ++ [(none, b)]) := fun p hp => by
  rcases List.mem_append.mp hp with hp | hp
  · exact h p hp
  · rw [List.mem_singleton.mp hp]
theorem Good.blk {r : Row} (h : Good r) : Good ⟨.cons (.blk r.body) .nil, r.term, r.never, r.labels, r.leaves, r.goes⟩ where
  term := h.term
  brk near := by show (hbs r.body none near || false) = _; rw [Bool.or_false]; exact h.brk near
  nofall := rfl
  nodup := h.nodup
  chk o ho := by
    have e : chks (.cons (.blk r.body) .nil) o = chks r.body o := funext fun s => chks_one _ o s
    show Acts (chks (.cons (.blk r.body) .nil) o) _ _
    rw [e]; exact h.chk o ho
theorem Good.if1 {r : Row} (h : Good r) : Good ⟨.cons (.if1 r.body) .nil, false, r.never, r.labels, r.leaves, r.goes⟩ where
  term := rfl
  brk near := by show (hbs r.body none near || false) = _; rw [Bool.or_false]; exact h.brk near
  nofall := rfl
  nodup := h.nodup
  chk o ho := by
    have e : chks (.cons (.if1 r.body) .nil) o = chks r.body o := funext fun s => chks_one _ o s
    show Acts (chks (.cons (.if1 r.body) .nil) o) _ _
    rw [e]; exact h.chk o ho
theorem not_o_snoc {o : Ops} {p : Option Str × Bool} : ¬(o ++ [p] = []) := fun e => by
  have := congrArg List.length e
  simp at this
theorem Good.for_ {r : Row} (h : Good r) : Good ⟨.cons (.for_ none true r.body) .nil, !r.leaves, r.never, r.labels, false, false⟩ where
  term := by show (true && !hbs r.body none true) = _; rw [h.brk true]; rfl
  brk near := by show (hbs r.body none false || false) = _; rw [h.brk false]; cases near <;> rfl
  nofall := rfl
  nodup := h.nodup
  chk o ho := by
    have e : chks (.cons (.for_ none true r.body) .nil) o = chks r.body (o ++ [(none, true)]) := funext fun s => chks_one _ o s
    show Acts (chks (.cons (.for_ none true r.body) .nil) o) _ _
    rw [e]
    refine (h.chk _ (ho.snoc true)).congr ⟨?_, ?_⟩
    · rintro (h | ⟨_, h⟩ | ⟨_, h⟩)
      · exact .inl h
      · exact absurd h not_o_snoc
      · exact absurd (h (none, true) (List.mem_append.mpr (.inr (.head _)))) (by decide)
    · rintro (h | ⟨h, _⟩ | ⟨h, _⟩)
      · exact .inl h
      · cases h
      · cases h
theorem Good.two {r1 r2 : Row} (h1 : Good r1) (h2 : Good r2) : Good ⟨.cons (.if2 r1.body (.blk r2.body)) .nil, r1.term && r2.term, neverOf [r1, r2], labsOf [r1, r2], [r1, r2].any Row.leaves, [r1, r2].any Row.goes⟩ where
  term := by show (terms r1.body && terms r2.body) = _; rw [h1.term, h2.term]
  brk near := by show ((hbs r1.body none near || hbs r2.body none near) || false) = (near && (r1.leaves || (r2.leaves || false))); rw [h1.brk, h2.brk]; cases near <;> cases r1.leaves <;> cases r2.leaves <;> rfl
  nofall := rfl
  nodup := nodup_of_never
  chk o ho := by
    have e : chks (.cons (.if2 r1.body (.blk r2.body)) .nil) o = foldO (fun (r : Row) s => chks r.body o s) [r1, r2] := funext fun s => by
      rw [chks_one]
      show (chks r1.body o s).bind (fun s => chks r2.body o s) = (chks r1.body o s).bind fun s => (chks r2.body o s).bind fun s => some s
      cases chks r1.body o s with
      | none => rfl
      | some s1 => show chks r2.body o s1 = (chks r2.body o s1).bind fun s => some s; cases chks r2.body o s1 <;> rfl
    show Acts (chks (.cons (.if2 r1.body (.blk r2.body)) .nil) o) _ _
    rw [e]
    exact acts_all o ho [r1, r2] fun r hr => by
      rcases List.mem_cons.mp hr with rfl | hr
      · exact h1
      · rw [List.mem_singleton.mp hr]; exact h2
theorem Good.three {r1 r2 r3 : Row} (h1 : Good r1) (h2 : Good r2) (h3 : Good r3) : Good ⟨.cons (.if2 r1.body (.if2 r2.body (.blk r3.body))) .nil, r1.term && (r2.term && r3.term), neverOf [r1, r2, r3], labsOf [r1, r2, r3], [r1, r2, r3].any Row.leaves, [r1, r2, r3].any Row.goes⟩ where
  term := by show (terms r1.body && (terms r2.body && terms r3.body)) = _; rw [h1.term, h2.term, h3.term]
  brk near := by show ((hbs r1.body none near || (hbs r2.body none near || hbs r3.body none near)) || false) = (near && (r1.leaves || (r2.leaves || (r3.leaves || false)))); rw [h1.brk, h2.brk, h3.brk]; cases near <;> cases r1.leaves <;> cases r2.leaves <;> cases r3.leaves <;> rfl
  nofall := rfl
  nodup := nodup_of_never
  chk o ho := by
    have e : chks (.cons (.if2 r1.body (.if2 r2.body (.blk r3.body))) .nil) o = foldO (fun (r : Row) s => chks r.body o s) [r1, r2, r3] := funext fun s => by
      rw [chks_one]
      show (chks r1.body o s).bind (fun s => (chks r2.body o s).bind fun s => chks r3.body o s) = (chks r1.body o s).bind fun s => (chks r2.body o s).bind fun s => (chks r3.body o s).bind fun s => some s
      cases chks r1.body o s with
      | none => rfl
      | some s1 =>
        show (chks r2.body o s1).bind (fun s => chks r3.body o s) = (chks r2.body o s1).bind fun s => (chks r3.body o s).bind fun s => some s
        cases chks r2.body o s1 with
        | none => rfl
        | some s2 => show chks r3.body o s2 = (chks r3.body o s2).bind fun s => some s; cases chks r3.body o s2 <;> rfl
    show Acts (chks (.cons (.if2 r1.body (.if2 r2.body (.blk r3.body))) .nil) o) _ _
    rw [e]
    exact acts_all o ho [r1, r2, r3] fun r hr => by
      rcases List.mem_cons.mp hr with rfl | hr
      · exact h1
      · rcases List.mem_cons.mp hr with rfl | hr
        · exact h2
        · rw [List.mem_singleton.mp hr]; exact h3
theorem Good.sw {r1 r2 : Row} (h1 : Good r1) (h2 : Good r2) : Good ⟨.cons (.sw none (.cons false r1.body (.cons true r2.body .nil))) .nil, r1.term && (r2.term && !([r1, r2].any Row.leaves)), neverOf [r1, r2], labsOf [r1, r2], false, [r1, r2].any Row.goes⟩ where
  term := by
    show ((false || (true || false)) && (((fallLast r1.body || terms r1.body) && !hbs r1.body none true) && (((fallLast r2.body || terms r2.body) && !hbs r2.body none true) && true))) = (r1.term && (r2.term && !(r1.leaves || (r2.leaves || false))))
    rw [h1.term, h2.term, h1.nofall, h2.nofall, h1.brk, h2.brk]
    cases r1.term <;> cases r2.term <;> cases r1.leaves <;> cases r2.leaves <;> rfl
  brk near := by show ((hbs r1.body none false || (hbs r2.body none false || false)) || false) = _; rw [h1.brk, h2.brk]; cases near <;> rfl
  nofall := rfl
  nodup := nodup_of_never
  chk o ho := by
    have e : chks (.cons (.sw none (.cons false r1.body (.cons true r2.body .nil))) .nil) o = foldO (fun (r : Row) s => chks r.body (o ++ [(none, false)]) s) [r1, r2] := funext fun s => by
      rw [chks_one]; rfl
    show Acts (chks (.cons (.sw none (.cons false r1.body (.cons true r2.body .nil))) .nil) o) _ _
    rw [e]
    refine (acts_all _ (ho.snoc false) [r1, r2] fun r hr => by
      rcases List.mem_cons.mp hr with rfl | hr
      · exact h1
      · rw [List.mem_singleton.mp hr]; exact h2).congr ⟨?_, ?_⟩
    · rintro (h | ⟨_, h⟩ | ⟨h, e⟩)
      · exact .inl h
      · exact absurd h not_o_snoc
      · exact .inr (.inr ⟨h, fun p hp => e p (List.mem_append.mpr (.inl hp))⟩)
    · rintro (h | ⟨h, _⟩ | ⟨h, e⟩)
      · exact .inl h
      · cases h
      · refine .inr (.inr ⟨h, fun p hp => ?_⟩)
        rcases List.mem_append.mp hp with hp | hp
        · exact e p hp
        · rw [List.mem_singleton.mp hp]
theorem Good.put {r1 r2 r3 : Row} (way : Int) (h1 : Good r1) (h2 : Good r2) (h3 : Good r3) : Good (Row.put way r1 r2 r3) := by
  unfold Row.put
  split
  · exact h1.blk
  split
  · exact h1.two h2
  split
  · exact h1.if1
  split
  · exact h1.three h2 h3
  split
  · exact h1.sw h2
  · exact h1.for_
theorem put_sz (way : Int) (r1 r2 r3 : Row) : (Row.put way r1 r2 r3).body.sz ≤ r1.body.sz + r2.body.sz + r3.body.sz + 6 := by
  unfold Row.put
  repeat' split
  all_goals simp only [Sts.sz, St.sz, Cs.sz]
  all_goals omega
theorem put_labs (way : Int) (r1 r2 r3 : Row) : (Row.put way r1 r2 r3).labels.length ≤ r1.labels.length + r2.labels.length + r3.labels.length := by
  unfold Row.put
  repeat' split
  all_goals simp only [labsOf, List.map_cons, List.map_nil, List.flatten_cons, List.flatten_nil, List.length_append, List.length_nil]
  all_goals omega
end
section
set_option tactic.hygienic false
theorem ln84 : True := by
  k_with_none
  (k_with "room" => first | exact roomE (by assumption) | exact roomD (by assumption) (by first | decide | omega) | ((try simp only [depth_mark, depth_under_make, depth_under_kw, depth_in1, depth_deeper, depth_caller]); (try dsimp only [ktrTop]); omega))
  (k_with "mem" => first | exact List.mem_cons_self | (refine List.mem_cons_of_mem _ ?_; first | ktr_member | k_mem))
  (k_with "enter" => (refine' code_def (by first | (k_asm) | fail "no") (by first | (k_asm) | fail "no") (by first | (k_asm) | fail "no") (by first | (k_asm) | fail "no") (by first | (k_asm) | fail "no") (by first | (exact rfl) | fail "no") (by first | (exact rfl) | fail "no") (by first | (first | exact rfl | assumption) | fail "no") (by first | (k_is) | fail "no") (by first | (k_is) | fail "no") (by first | (k_room) | fail "no") (by first | (first | exact BindsTo.of_eq rfl | exact binds_K (by k_in) rfl (by k_is) rfl rfl rfl) | fail "no") (by first | (exact locs rfl) | fail "no") ?_ (by first | (exact rfl) | fail "no") (by first | (exact rfl) | fail "no") (by first | (exact rfl) | fail "no") (by first | (decide) | fail "no"); k_whole; intro g' L' h' FG' F' N' B' X' T'; (try dsimp only); (try k_fold); (try (refine (let en9 := _; let ar9 := Around.deeper _ en9; (?_ : wpAny _ ar9 (execs _ en9) _ _ _))))))
  (k_with "exec For Name Name cons nil" => (k_here; (rename Fr _ _ _ _ => lF'); (with_unfolding_all refine' For_invVF lF' (by first | (exact rfl) | fail "no") (by first | (exact rfl) | fail "no") ?_; k_whole)))
  (k_with "exec For Name Call cons nil" => (k_here; (rename Fr _ _ _ _ => lF'); (with_unfolding_all refine' For_invVF lF' (by first | (exact rfl) | fail "no") (by first | (exact rfl) | fail "no") ?_; k_whole)))
  (k_with "pyIter ref" => (refine Held.out ?_))
  (k_with "subscriptTail" => (k_here; (with_reducible show wpAny _ _ (subscriptTail _ _ (Value.ref _) (Value.int 0 _)) _ _ _); k_dflt (refine' item0 (by first | (exact News.isTup (by k_asm) (by k_mem)) | fail "no") ?_ (by first | (with_unfolding_all rfl) | fail "no"); k_whole)))
  (k_with "compareOp NotIn str ref" => (k_here; (with_reducible show wpAny _ _ (compareOp CmpOp.NotIn (Value.str _ _) (Value.ref _)) _ _ _); (with_unfolding_all refine' notin_tuple_strs (by first | ((refine' tupK (by first | (k_in) | fail "no") (by first | (k_dflt k_is) | fail "no"))) | fail "no") (by first | (repeat constructor) | fail "no") ?_; k_whole)))
  (k_with "ite" => (refine ite_no (by first | ((simp only [beq_eq_false_iff_ne, ne_eq]; assumption)) | fail "no") ?_))
  (k_with "TurnPost" => (dsimp only [TurnPost]))
  trivial

noncomputable def lM : Str := Str.ofString "M"
noncomputable def lU : Str := Str.ofString "U"
noncomputable def lL : Str := Str.ofString "L"
noncomputable def lS : Str := Str.ofString "S"
noncomputable def lR : Str := Str.ofString "R"
noncomputable abbrev one (s : St) : Sts := .cons s .nil
noncomputable abbrev pan : St := .ex (.cn (Str.ofString "panic"))
/-- the table, by hand -/
noncomputable def tabA : List Row :=
  [⟨one .ret, true, false, [], false, false⟩,
   ⟨one pan, true, false, [], false, false⟩,
   ⟨one (.ex .sel), false, false, [], false, false⟩,
   ⟨.nil, false, false, [], false, false⟩,
   ⟨one (.ex .gx), false, false, [], false, false⟩,
   ⟨one (.ex .nm), false, false, [], false, false⟩,
   ⟨.cons .ret (one (.ex .sel)), false, false, [], false, false⟩,
   ⟨one (.for_ none true .nil), true, false, [], false, false⟩,
   ⟨one (.for_ none false .nil), false, false, [], false, false⟩,
   ⟨one (.for_ none true (one (.brk none))), false, false, [], false, false⟩,
   ⟨one (.cho none .nil), true, false, [], false, false⟩,
   ⟨one (.for_ none true (one (.sw none (.cons true (one (.brk none)) .nil)))), true, false, [], false, false⟩,
   ⟨one (.sw none (.cons false (one .ret) .nil)), false, false, [], false, false⟩,
   ⟨one (.sw none (.cons false (one .fall) (.cons true (one .ret) .nil))), true, false, [], false, false⟩]
noncomputable def tabB : List Row :=
  [⟨one (.brk none), false, false, [], true, false⟩,
   ⟨one (.cont none), false, false, [], false, true⟩,
   ⟨one (.for_ (some lM) true (one (.sw none (.cons true (one (.brk (some lM))) .nil)))), false, false, [lM], false, false⟩,
   ⟨one (.for_ (some lU) true .nil), true, true, [lU], false, false⟩,
   ⟨one (.for_ (some lM) true (one (.for_ (some lM) true (one (.brk (some lM)))))), false, true, [lM], false, false⟩,
   ⟨one (.for_ (some lL) true (one (.cont (some lL)))), true, false, [lL], false, false⟩,
   ⟨one (.for_ none true (one (.sw (some lS) (.cons true (one (.cont (some lS))) .nil)))), true, true, [lS], false, false⟩,
   ⟨one (.rng (some lR) (one (.brk (some lR)))), false, false, [lR], false, false⟩]
theorem acts_no {f : CSt → Option CSt} {bad : Prop} (h : ∀ s, f s = some s) (hb : ¬bad) : Acts f bad [] := by
  rw [show f = some from funext h]
  exact Acts.id.congr ⟨False.elim, fun h => absurd h hb⟩
theorem lead_near {brk : Bool} {o : Ops} {p : Option Str × Bool} {s : CSt} (h : (brk || p.2) = true) : lead brk none (o ++ [p]) s = some s := by
  unfold lead
  show (if _ then _ else _) = _
  rw [if_neg]
  rw [List.filter_append]
  intro e
  have h2 := List.filter_eq_nil_iff.mp (List.append_eq_nil_iff.mp e).2 p (.head _)
  exact h2 h
theorem lead_in {brk : Bool} {x : Str} {o : Ops} {p : Option Str × Bool} {s : CSt} (hp : p ∈ o) (h : ((brk || p.2) && p.1 == some x) = true) : lead brk (some x) o s = some ⟨s.told, keyIn x s.used⟩ := by
  unfold lead
  show (if _ then _ else _) = _
  rw [if_neg]
  intro e
  have := List.filter_eq_nil_iff.mp e p hp
  exact this h
theorem lead_out {brk : Bool} {x : Str} {o : Ops} {s : CSt} (h : ∀ p ∈ o, ((brk || p.2) && p.1 == some x) = false) : lead brk (some x) o s = none := by
  unfold lead
  show (if _ then _ else _) = _
  rw [if_pos]
  rw [List.filter_eq_nil_iff]
  intro p hp e
  rw [h p hp] at e
  cases e
theorem mem_keyIn2 {x y : Str} {ks : List Str} : y ∈ keyIn x ks ↔ y ∈ ks ∨ y = x := by
  unfold keyIn
  split
  · rename_i h
    exact ⟨.inl, fun h' => h'.elim id fun e => e ▸ h⟩
  · simp
/-- told and used -/
theorem acts_lab {f : CSt → Option CSt} {bad : Prop} {x : Str} (h : ∀ s, f s = (tell (some x) s).bind fun s => some ⟨s.told, keyIn x s.used⟩) (hx : uu ≠ x) (hb : ¬bad) : Acts f bad [x] := by
  constructor
  · intro s hu hc s' e
    rw [h] at e
    unfold tell at e
    by_cases hm : x ∈ s.told
    · dsimp only at e
      rw [if_pos hm] at e; cases e
    · dsimp only at e
      rw [if_neg hm] at e
      cases e
      rcases hc with hc | hc | ⟨y, hy, hc⟩
      · exact absurd hc hb
      · refine ⟨List.mem_append.mpr (.inl hc.1), fun hm' => ?_⟩
        rcases mem_keyIn2.mp hm' with hm' | hm'
        · exact hc.2 hm'
        · exact hx hm'
      · rw [List.mem_singleton.mp hy] at hc
        exact absurd hc hm
  · intro s hu _ hd
    have hm := hd x (.head _)
    refine ⟨⟨s.told ++ [x], keyIn x s.used⟩, ?_, rfl, fun y hy => mem_keyIn2.mpr (.inl hy), fun y hy => mem_keyIn2.mpr (.inr (List.mem_singleton.mp hy)), fun hm' => ?_⟩
    · rw [h]; unfold tell; dsimp only; rw [if_neg hm]; rfl
    · rcases mem_keyIn2.mp hm' with hm' | hm'
      · exact hu hm'
      · exact hx hm'
/-- it is never let -/
theorem acts_bad {f : CSt → Option CSt} {bad : Prop} {ls : List Str} (h : ∀ s, uu ∉ s.used → DeadO (f s)) (hb : bad) : Acts f bad ls :=
  ⟨fun s hu _ => h s hu, fun _ _ hn => absurd hb hn⟩
theorem good_of {r : Row} (h1 : terms r.body = r.term) (h2 : ∀ near, hbs r.body none near = (near && r.leaves)) (h3 : fallLast r.body = false) (h4 : r.never = false → r.labels.Nodup) (h5 : ∀ o, Bare o → Acts (chks r.body o) (r.never = true ∨ (r.leaves = true ∧ o = []) ∨ (r.goes = true ∧ ∀ p ∈ o, p.2 = false)) r.labels) : Good r := ⟨h1, h2, h3, h4, h5⟩
theorem tabA_good : ∀ r ∈ tabA, Good r := by
  intro r hr
  unfold tabA at hr
  simp only [List.mem_cons, List.not_mem_nil, or_false] at hr
  rcases hr with rfl | rfl | rfl | rfl | rfl | rfl | rfl | rfl | rfl | rfl | rfl | rfl | rfl | rfl
  all_goals (
    refine good_of (by decide +kernel) (fun near => by cases near <;> decide +kernel) (by decide +kernel) (fun _ => List.nodup_nil) (fun o _ => acts_no (fun s => ?_) (by rintro (h | ⟨h, _⟩ | ⟨h, _⟩) <;> cases h)))
  all_goals first
    | rfl
    | (simp only [chks, chk1, chkC, tell, Option.bind_some, lead_near (p := (none, true)) (show (true || (none, true).2) = true from rfl)]; done)
    | (simp only [chks, chk1, chkC, tell, Option.bind_some, lead_near (p := (none, false)) (show (true || (none, false).2) = true from rfl)])
theorem tabB_good : ∀ r ∈ tabB, Good r := by
  intro r hr
  unfold tabB at hr
  simp only [List.mem_cons, List.not_mem_nil, or_false] at hr
  rcases hr with rfl | rfl | rfl | rfl | rfl | rfl | rfl | rfl
  · refine good_of (by decide +kernel) (fun near => by cases near <;> decide +kernel) (by decide +kernel) (fun _ => List.nodup_nil) (fun o _ => ?_)
    have e : ∀ s, chks (one (.brk none)) o s = if o = [] then none else some s := fun s => by
      rw [chks_one]
      show (if _ then _ else _) = _
      have : (o.filter fun r => true || r.2) = o := List.filter_eq_self.mpr fun _ _ => rfl
      rw [this]
    constructor
    · intro s hu h s' e'
      rw [e] at e'
      rcases h with h | h | ⟨_, h, _⟩
      · rcases h with h | ⟨_, h⟩ | ⟨h, _⟩
        · cases h
        · rw [if_pos h] at e'; cases e'
        · cases h
      · split at e'
        · cases e'
        · cases e'; exact h
      · exact nomatch h
    · intro s hu h _
      have ho : o ≠ [] := fun e => h (.inr (.inl ⟨rfl, e⟩))
      exact ⟨s, by rw [e, if_neg ho], (List.append_nil _).symm, fun _ h => h, fun _ h => (nomatch h), hu⟩
  · refine good_of (by decide +kernel) (fun near => by cases near <;> decide +kernel) (by decide +kernel) (fun _ => List.nodup_nil) (fun o _ => ?_)
    have e : ∀ s, chks (one (.cont none)) o s = if o.filter (fun r => false || r.2) = [] then none else some s := fun s => by
      rw [chks_one]; rfl
    constructor
    · intro s hu h s' e'
      rw [e] at e'
      rcases h with h | h | ⟨_, h, _⟩
      · rcases h with h | ⟨h, _⟩ | ⟨_, h⟩
        · cases h
        · cases h
        · rw [if_pos] at e'
          · cases e'
          · rw [List.filter_eq_nil_iff]
            intro p hp e
            rw [h p hp] at e
            cases e
      · split at e'
        · cases e'
        · cases e'; exact h
      · exact nomatch h
    · intro s hu h _
      have ho : ¬(o.filter (fun r => false || r.2) = []) := fun e => h (.inr (.inr ⟨rfl, fun p hp => by
        have := List.filter_eq_nil_iff.mp e p hp
        cases q : p.2
        · rfl
        · rw [q] at this; exact absurd rfl this⟩))
      exact ⟨s, by rw [e, if_neg ho], (List.append_nil _).symm, fun _ h => h, fun _ h => (nomatch h), hu⟩
  · refine good_of (by decide +kernel) (fun near => by cases near <;> decide +kernel) (by decide +kernel) (fun _ => by simp) (fun o _ => acts_lab (fun s => ?_) (by decide +kernel) (by rintro (h | ⟨h, _⟩ | ⟨h, _⟩) <;> cases h))
    rw [chks_one]
    show (tell (some lM) s).bind _ = _
    congr 1
    funext s
    show (((lead true (some lM) (o ++ [(some lM, true)] ++ [(none, false)]) s).bind fun s => some s).bind fun s => some s).bind (fun s => some s) = _
    rw [lead_in (p := (some lM, true)) (by simp) (by decide +kernel)]
    rfl
  · refine good_of (by decide +kernel) (fun near => by cases near <;> decide +kernel) (by decide +kernel) (fun h => by cases h) (fun o _ => acts_bad (fun s hu s' e => ?_) (.inl rfl))
    rw [chks_one] at e
    change (tell (some lU) s).bind (fun s => some s) = some s' at e
    unfold tell at e
    dsimp only at e
    split at e
    · cases e
    · cases e
      exact ⟨List.mem_append.mpr (.inr (.head _)), hu⟩
  · refine good_of (by decide +kernel) (fun near => by cases near <;> decide +kernel) (by decide +kernel) (fun h => by cases h) (fun o _ => acts_bad (fun s hu s' e => ?_) (.inl rfl))
    rw [chks_one] at e
    change (tell (some lM) s).bind (fun s => ((tell (some lM) s).bind fun s => _).bind fun s => some s) = some s' at e
    unfold tell at e
    dsimp only at e
    split at e
    · cases e
    · rw [Option.bind_some] at e
      rw [if_pos (List.mem_append.mpr (.inr (.head _)))] at e
      cases e
  · refine good_of (by decide +kernel) (fun near => by cases near <;> decide +kernel) (by decide +kernel) (fun _ => by simp) (fun o _ => acts_lab (fun s => ?_) (by decide +kernel) (by rintro (h | ⟨h, _⟩ | ⟨h, _⟩) <;> cases h))
    rw [chks_one]
    show (tell (some lL) s).bind _ = _
    congr 1
    funext s
    show (lead false (some lL) (o ++ [(some lL, true)]) s).bind (fun s => some s) = _
    rw [lead_in (p := (some lL, true)) (by simp) (by decide +kernel)]
    rfl
  · refine good_of (by decide +kernel) (fun near => by cases near <;> decide +kernel) (by decide +kernel) (fun h => by cases h) (fun o ho => acts_bad (fun s hu s' e => ?_) (.inl rfl))
    rw [chks_one] at e
    change (((tell (some lS) s).bind fun s => ((lead false (some lS) _ s).bind fun s => some s).bind fun s => some s).bind fun s => some s) = some s' at e
    have : ∀ s, lead false (some lS) ((o ++ [(none, true)]) ++ [(some lS, false)]) s = none := fun s => lead_out fun p hp => by
      rcases List.mem_append.mp hp with hp | hp
      · rw [ho.snoc true p hp]; cases p.2 <;> rfl
      · rw [List.mem_singleton.mp hp]; rfl
    unfold tell at e
    dsimp only at e
    split at e
    · cases e
    · rw [Option.bind_some, this] at e
      cases e
  · refine good_of (by decide +kernel) (fun near => by cases near <;> decide +kernel) (by decide +kernel) (fun _ => by simp) (fun o _ => acts_lab (fun s => ?_) (by decide +kernel) (by rintro (h | ⟨h, _⟩ | ⟨h, _⟩) <;> cases h))
    rw [chks_one]
    show (tell (some lR) s).bind _ = _
    congr 1
    funext s
    show (lead true (some lR) (o ++ [(some lR, true)]) s).bind (fun s => some s) = _
    rw [lead_in (p := (some lR, true)) (by simp) (by decide +kernel)]
    rfl
noncomputable def tab : List Row := tabA ++ tabB
theorem tab_good : ∀ r ∈ tab, Good r := fun r hr => (List.mem_append.mp hr).elim (tabA_good r) (tabB_good r)
theorem tab_small : ∀ r ∈ tab, r.body.sz ≤ 6 ∧ r.labels.length ≤ 1 := by
  intro r hr
  unfold tab tabA tabB at hr
  simp only [List.cons_append, List.nil_append, List.mem_cons, List.not_mem_nil, or_false] at hr
  rcases hr with rfl | rfl | rfl | rfl | rfl | rfl | rfl | rfl | rfl | rfl | rfl | rfl | rfl | rfl | rfl | rfl | rfl | rfl | rfl | rfl | rfl | rfl
  all_goals exact ⟨by decide +kernel, by decide +kernel⟩
end
section
theorem ln85 : True := by
  k_with_none
  (k_with "room" => first | exact roomE (by assumption) | exact roomD (by assumption) (by first | decide | omega) | ((try simp only [depth_mark, depth_under_make, depth_under_kw, depth_in1, depth_deeper, depth_caller]); (try dsimp only [ktrTop]); omega))
  (k_with "mem" => first | exact List.mem_cons_self | (refine List.mem_cons_of_mem _ ?_; first | ktr_member | k_mem))
  (k_with "enter" => (refine' code_def (by first | (k_asm) | fail "no") (by first | (k_asm) | fail "no") (by first | (k_asm) | fail "no") (by first | (k_asm) | fail "no") (by first | (k_asm) | fail "no") (by first | (exact rfl) | fail "no") (by first | (exact rfl) | fail "no") (by first | (first | exact rfl | assumption) | fail "no") (by first | (k_is) | fail "no") (by first | (k_is) | fail "no") (by first | (k_room) | fail "no") (by first | (first | exact BindsTo.of_eq rfl | exact binds_K (by k_in) rfl (by k_is) rfl rfl rfl) | fail "no") (by first | (exact locs rfl) | fail "no") ?_ (by first | (exact rfl) | fail "no") (by first | (exact rfl) | fail "no") (by first | (exact rfl) | fail "no") (by first | (decide) | fail "no"); k_whole; intro g' L' h' FG' F' N' B' X' T'; (try dsimp only); (try k_fold); (try (refine (let en9 := _; let ar9 := Around.deeper _ en9; (?_ : wpAny _ ar9 (execs _ en9) _ _ _))))))
  (k_with "exec For Name Name cons nil" => (k_here; (rename Fr _ _ _ _ => lF'); (with_unfolding_all refine' For_invVF lF' (by first | (exact rfl) | fail "no") (by first | (exact rfl) | fail "no") ?_; k_whole)))
  (k_with "exec For Name Call cons nil" => (k_here; (rename Fr _ _ _ _ => lF'); (with_unfolding_all refine' For_invVF lF' (by first | (exact rfl) | fail "no") (by first | (exact rfl) | fail "no") ?_; k_whole)))
  (k_with "pyIter ref" => (refine Held.out ?_))
  (k_with "subscriptTail" => (k_here; (with_reducible show wpAny _ _ (subscriptTail _ _ (Value.ref _) (Value.int 0 _)) _ _ _); k_dflt (refine' item0 (by first | (exact News.isTup (by k_asm) (by k_mem)) | fail "no") ?_ (by first | (with_unfolding_all rfl) | fail "no"); k_whole)))
  (k_with "compareOp NotIn str ref" => (k_here; (with_reducible show wpAny _ _ (compareOp CmpOp.NotIn (Value.str _ _) (Value.ref _)) _ _ _); (with_unfolding_all refine' notin_tuple_strs (by first | ((refine' tupK (by first | (k_in) | fail "no") (by first | (k_dflt k_is) | fail "no"))) | fail "no") (by first | (repeat constructor) | fail "no") ?_; k_whole)))
  (k_with "ite" => (refine ite_no (by first | ((simp only [beq_eq_false_iff_ne, ne_eq]; assumption)) | fail "no") ?_))
  (k_with "TurnPost" => (dsimp only [TurnPost]))
  trivial

/-! ## what an expression of the table is, read off its text -/
inductive AV where
  | none
  | bool (b : Bool)
  | int (i : Int)
  | str (x : Str)
  | gx
  | any
  | tup (vs : List AV)
  | lst (vs : List AV)
set_option genSizeOf false
set_option genInjectivity false
mutual
inductive VIn (news : List (Addr × Obj)) : Value → AV → Prop
  | none : VIn news .none .none
  | bool {b : Bool} : VIn news (.bool b) (.bool b)
  | int {i : Int} {t : Tok} : VIn news (.int i t) (.int i)
  | str {x : Str} {t : Tok} : VIn news (.str x t) (.str x)
  | gx : VIn news (.ref 171) .gx
  | any {v : Value} : VIn news v .any
  | tup {a : Addr} {vs : List Value} {n : Nat} {as : List AV} : (a, tupO vs n) ∈ news → VsIn news vs as → VIn news (.ref a) (.tup as)
  | lst {a : Addr} {vs : List Value} {n : Nat} {as : List AV} : (a, listOf vs.toArray n) ∈ news → VsIn news vs as → VIn news (.ref a) (.lst as)
inductive VsIn (news : List (Addr × Obj)) : List Value → List AV → Prop
  | nil : VsIn news [] []
  | cons {v : Value} {vs : List Value} {a : AV} {as : List AV} : VIn news v a → VsIn news vs as → VsIn news (v :: vs) (a :: as)
end
theorem VIn.mono {news news' : List (Addr × Obj)} (hs : ∀ p ∈ news, p ∈ news') {v : Value} {a : AV} (h : VIn news v a) : VIn news' v a :=
  VIn.rec (motive_1 := fun v a _ => VIn news' v a) (motive_2 := fun vs as _ => VsIn news' vs as) .none .bool .int .str .gx .any (fun h _ k => .tup (hs _ h) k) (fun h _ k => .lst (hs _ h) k) .nil (fun _ _ h r => .cons h r) h
theorem VsIn.mono {news news' : List (Addr × Obj)} (hs : ∀ p ∈ news, p ∈ news') {vs : List Value} {as : List AV} (h : VsIn news vs as) : VsIn news' vs as :=
  VsIn.rec (motive_1 := fun v a _ => VIn news' v a) (motive_2 := fun vs as _ => VsIn news' vs as) .none .bool .int .str .gx .any (fun h _ k => .tup (hs _ h) k) (fun h _ k => .lst (hs _ h) k) .nil (fun _ _ h r => .cons h r) h
theorem VsIn.length {news : List (Addr × Obj)} {vs : List Value} {as : List AV} (h : VsIn news vs as) : vs.length = as.length :=
  VsIn.rec (motive_1 := fun _ _ _ => True) (motive_2 := fun vs as _ => vs.length = as.length) trivial trivial trivial trivial trivial trivial (fun _ _ _ => trivial) (fun _ _ _ => trivial) rfl (fun _ _ _ r => congrArg Nat.succ r) h
theorem VsIn.append {news : List (Addr × Obj)} {vs us : List Value} {as bs : List AV} (h : VsIn news vs as) (k : VsIn news us bs) : VsIn news (vs ++ us) (as ++ bs) :=
  VsIn.rec (motive_1 := fun _ _ _ => True) (motive_2 := fun vs as _ => VsIn news (vs ++ us) (as ++ bs)) trivial trivial trivial trivial trivial trivial (fun _ _ _ => trivial) (fun _ _ _ => trivial) k (fun h _ _ r => .cons h r) h
noncomputable def mapO {α β : Type} (f : α → Option β) : List α → Option (List β)
  | [] => some []
  | x :: r => (f x).bind fun y => (mapO f r).bind fun ys => some (y :: ys)
noncomputable def labOk : AV → Bool
  | .none => true
  | .str x => decide (x.length ≤ 40)
  | _ => false
noncomputable def blkA (r : AV) : AV := .tup [.str "block", .int 0, r]
noncomputable def forA (l c r : AV) : AV := .tup [.str "for", .int 0, l, .none, c, .none, blkA r]
noncomputable def swA (l : AV) (cs : List AV) : AV := .tup [.str "switch", .int 0, l, .none, .none, .tup cs]
noncomputable def calA (c : AV) : AV := .tup [.str "expr", .int 0, .tup [.str "call", .int 0, c, .any, .any]]
/-- the four helpers -/
noncomputable def acall (f : Str) (vs : List AV) : Option AV :=
  if f = Str.ofString "_law_call" then match vs with
    | [c] => some (calA c)
    | _ => none
  else if f = Str.ofString "_law_for" then match vs with
    | [l, .tup r] => if labOk l then some (forA l .none (.tup r)) else none
    | [l, .tup r, c] => some (forA l c (.tup r))
    | _ => none
  else if f = Str.ofString "_law_switch" then match vs with
    | [l, .lst cs] => if cs.length ≤ 100 then some (swA l cs) else none
    | _ => none
  else if f = Str.ofString "_law_block" then match vs with
    | [.tup r] => some (blkA (.tup r))
    | _ => none
  else none
noncomputable def acst : Const → Option AV
  | .none => some .none
  | .bool b => some (.bool b)
  | .int i => some (.int i)
  | .str x => some (.str x)
  | _ => none
noncomputable def aev (σ : List (Str × AV)) : Nat → PySem.Expr → Option AV
  | 0, _ => none
  | n + 1, e => match e with
    | .Constant c _ _ => acst c
    | .Name x _ => if x = Str.ofString "_law_x" then some .gx else σ.lookup x
    | .Tuple es _ _ => if es.length ≤ 100 then (mapO (aev σ n) es).bind fun vs => some (.tup vs) else none
    | .List es _ => if es.length ≤ 100 then (mapO (aev σ n) es).bind fun vs => some (.lst vs) else none
    | .Call f as ks _ => match f with
      | .Name f _ => match as with
        | [] => none
        | a :: args => match ks with
          | [] => (mapO (aev σ n) (a :: args)).bind (acall f)
          | _ => none
      | _ => none
    | _ => none
section
variable {w : World} {mean : ExcName → Option Value} {mg mb : Str → Option Value} {dp un : Nat} {gd : Option (List Code)} {cn : Str} {cs : Scope} {L a : Addr} {ccd : Value} {cl : List (Str × Addr)} {outer : List Env} {A₀ : Around} {base h₀ : Heap}
/-- the frame that evaluates -/
structure AFrame (w : World) (mean : ExcName → Option Value) (mg mb : Str → Option Value) (dp un : Nat) (cn : Str) (cs : Scope) (L a : Addr) (ccd : Value) (cl : List (Str × Addr)) (outer : List Env) (A₀ : Around) (base h₀ : Heap) (σ : List (Str × AV)) : Prop where
  B : Below A₀ base outer h₀
  X : (hd.heap_1 w.params).In h₀
  T : Top hd.view_1 lo mean mg mb h₀
  hk : cs.kind = .function
  dp : dp + 7 < recursionLimit
  un : un + 8 * 7 < cLine
  glob : ∀ x ∈ [Str.ofString "_law_x", Str.ofString "_law_call", Str.ofString "_law_for", Str.ofString "_law_switch", Str.ofString "_law_block"], (envX cn cs L a ccd cl).kindOf x = some .globalImplicit
  loc : ∀ p ∈ σ, (envX cn cs L a ccd cl).kindOf p.1 = some .local ∧ (p.1 == ("__debug__" : Str)) = false
noncomputable def EnvIn (news : List (Addr × Obj)) (m : Str → Option Value) (σ : List (Str × AV)) : Prop := ∀ x a, σ.lookup x = some a → ∃ v, m x = some v ∧ VIn news v a
theorem EnvIn.mono {news news' : List (Addr × Obj)} {m : Str → Option Value} {σ : List (Str × AV)} (h : EnvIn news m σ) (hs : ∀ p ∈ news, p ∈ news') : EnvIn news' m σ := fun x a e => by
  obtain ⟨v, h1, h2⟩ := h x a e
  exact ⟨v, h1, h2.mono hs⟩
theorem lookup_mem {β : Type} {x : Str} {b : β} : ∀ {σ : List (Str × β)}, σ.lookup x = some b → (x, b) ∈ σ
  | [], h => nomatch h
  | (y, c) :: σ, h => by
    rw [List.lookup_cons] at h
    by_cases q : x = y
    · subst q
      simp only [beq_self_eq_true] at h
      cases h; exact .head _
    · rw [show (x == y) = false from beq_eq_false_iff_ne.mpr q] at h
      exact .tail _ (lookup_mem h)
theorem star_plain {σ : List (Str × AV)} {n : Nat} {e : PySem.Expr} {v : AV} (h : aev σ n e = some v) (rest : List PySem.Expr) (env : Env) : starEach (e :: rest) env = (false, eval e env) :: starEach rest env := by
  cases n with
  | zero => cases h
  | succ n => cases e <;> first | rfl | cases h
theorem plain_all {σ : List (Str × AV)} {n : Nat} (pos : Pos) (env : Env) : ∀ {es : List PySem.Expr} {vs : List AV}, mapO (aev σ n) es = some vs → (backTo pos (starEach es env)).any (·.1) = false
  | [], _, _ => rfl
  | e :: es, vs, h => by
    unfold mapO at h
    cases h1 : aev σ n e with
    | none => rw [h1] at h; cases h
    | some v =>
      rw [h1] at h
      cases h2 : mapO (aev σ n) es with
      | none => rw [Option.bind_some, h2] at h; cases h
      | some us =>
        rw [star_plain h1 es env]
        show (false || (backTo pos (starEach es env)).any (·.1)) = false
        rw [plain_all pos env h2]; rfl
end
section
variable {w : World} {mean : ExcName → Option Value} {mg mb : Str → Option Value} {dp un : Nat} {gd : Option (List Code)} {cn : Str} {cs : Scope} {L a : Addr} {ccd : Value} {cl : List (Str × Addr)} {outer : List Env} {A₀ : Around} {base h₀ : Heap} {σ : List (Str × AV)}
/-- the evaluation of one expression / of a row of them gives what was read off -/
noncomputable def AOk (w : World) (gd : Option (List Code)) (dp un : Nat) (cn : Str) (cs : Scope) (L a : Addr) (ccd : Value) (cl : List (Str × Addr)) (outer : List Env) (h₀ : Heap) (σ : List (Str × AV)) (e : PySem.Expr) (v : AV) : Prop :=
  ∀ (own rest : List (Addr × Obj)) (m : Str → Option Value) (s : Shared) (Q E : Value → Shared → Prop), Fr h₀ L s.heap m → News h₀ L s.heap (own ++ rest) → EnvIn rest m σ →
    (∀ r tl h' tk', Fr h₀ L h' m → News h₀ L h' (own ++ (tl ++ rest)) → (∀ p ∈ tl, ∀ q ∈ own ++ rest, q.1 < p.1) → VIn (tl ++ rest) r v → Q r { s with heap := h', toks := tk' }) →
    wpAny (model pg w) (ktrTop dp un gd cn cs L a ccd cl outer) (eval e (envX cn cs L a ccd cl)) Q E s
noncomputable def AsOk (w : World) (gd : Option (List Code)) (dp un : Nat) (cn : Str) (cs : Scope) (L a : Addr) (ccd : Value) (cl : List (Str × Addr)) (outer : List Env) (h₀ : Heap) (σ : List (Str × AV)) (pos : Pos) (es : List PySem.Expr) (vs : List AV) : Prop :=
  ∀ (own rest : List (Addr × Obj)) (m : Str → Option Value) (s : Shared) (Q : List Value → Shared → Prop) (E : Value → Shared → Prop), Fr h₀ L s.heap m → News h₀ L s.heap (own ++ rest) → EnvIn rest m σ →
    (∀ rs tl h' tk', Fr h₀ L h' m → News h₀ L h' (own ++ (tl ++ rest)) → (∀ p ∈ tl, ∀ q ∈ own ++ rest, q.1 < p.1) → VsIn (tl ++ rest) rs vs → Q rs { s with heap := h', toks := tk' }) →
    wpAny (model pg w) (ktrTop dp un gd cn cs L a ccd cl outer) (spliced (backTo pos (starEach es (envX cn cs L a ccd cl)))) Q E s
theorem own_perm {g h : Heap} {L : Addr} {own tl rest : List (Addr × Obj)} (N : News g L h (tl ++ (own ++ rest))) : News g L h (own ++ (tl ++ rest)) := fun p hp => N p (by
  rcases List.mem_append.mp hp with hp | hp
  · exact List.mem_append.mpr (.inr (List.mem_append.mpr (.inl hp)))
  · rcases List.mem_append.mp hp with hp | hp
    · exact List.mem_append.mpr (.inl hp)
    · exact List.mem_append.mpr (.inr (List.mem_append.mpr (.inr hp))))
theorem tl_lt {own rest tl tl' : List (Addr × Obj)} (l : ∀ p ∈ tl, ∀ q ∈ own ++ rest, q.1 < p.1) (l' : ∀ p ∈ tl', ∀ q ∈ own ++ (tl ++ rest), q.1 < p.1) : ∀ p ∈ tl' ++ tl, ∀ q ∈ own ++ rest, q.1 < p.1 := fun p hp q hq => by
  rcases List.mem_append.mp hp with hp | hp
  · refine l' p hp q ?_
    rcases List.mem_append.mp hq with hq | hq
    · exact List.mem_append.mpr (.inl hq)
    · exact List.mem_append.mpr (.inr (List.mem_append.mpr (.inr hq)))
  · exact l p hp q hq
theorem aevs_ok {n : Nat} (ih : ∀ e v, aev σ n e = some v → AOk w gd dp un cn cs L a ccd cl outer h₀ σ e v) (pos : Pos) : ∀ (es : List PySem.Expr) (vs : List AV), mapO (aev σ n) es = some vs → AsOk w gd dp un cn cs L a ccd cl outer h₀ σ pos es vs
  | [], vs, h => fun own rest m s Q E F N V ret => by
    cases h
    exact spliced_none (ret [] [] s.heap s.toks F N (fun _ h => (nomatch h)) .nil)
  | e :: es, vs, h => fun own rest m s Q E F N V ret => by
    unfold mapO at h
    cases h1 : aev σ n e with
    | none => rw [h1] at h; cases h
    | some v =>
      rw [h1, Option.bind_some] at h
      cases h2 : mapO (aev σ n) es with
      | none => rw [h2] at h; cases h
      | some us =>
        rw [h2] at h
        cases h
        refine spliced_more (ih e v h1 own rest m s _ E F N V fun r tl h' tk' F' N' l' R => ?_) (star_plain h1 _ _)
        refine aevs_ok ih pos es us h2 own (tl ++ rest) m _ _ E F' N' (V.mono fun p hp => List.mem_append.mpr (.inr hp)) fun rs tl2 h2 tk2 F2 N2 l2 R2 => ?_
        refine ret (r :: rs) (tl2 ++ tl) h2 tk2 F2 (by rw [List.append_assoc]; exact N2) (tl_lt l' l2) (.cons ?_ ?_)
        · rw [List.append_assoc]; exact R.mono fun p hp => List.mem_append.mpr (.inr hp)
        · rw [List.append_assoc]; exact R2
end
theorem mapO_length {α β : Type} {f : α → Option β} : ∀ {xs : List α} {ys : List β}, mapO f xs = some ys → xs.length = ys.length
  | [], ys, h => by cases h; rfl
  | x :: xs, ys, h => by
    unfold mapO at h
    cases h1 : f x with
    | none => rw [h1] at h; cases h
    | some y =>
      rw [h1, Option.bind_some] at h
      cases h2 : mapO f xs with
      | none => rw [h2] at h; cases h
      | some zs =>
        rw [h2] at h
        cases h
        rw [List.length_cons, List.length_cons, mapO_length h2]
section
variable {w : World} {mean : ExcName → Option Value} {mg mb : Str → Option Value} {dp un : Nat} {gd : Option (List Code)} {cn : Str} {cs : Scope} {L a : Addr} {ccd : Value} {cl : List (Str × Addr)} {outer : List Env} {A₀ : Around} {base h₀ : Heap} {σ : List (Str × AV)}
/-- what a call of one of the helpers gives -/
noncomputable def ACall (w : World) (gd : Option (List Code)) (dp un : Nat) (cn : Str) (cs : Scope) (L a : Addr) (ccd : Value) (cl : List (Str × Addr)) (outer : List Env) (h₀ : Heap) (fa : Addr) (vs : List AV) (v : AV) : Prop :=
  ∀ (own rest : List (Addr × Obj)) (m : Str → Option Value) (s : Shared) (Q E : Value → Shared → Prop) (rs : List Value), Fr h₀ L s.heap m → News h₀ L s.heap (own ++ rest) → VsIn rest rs vs →
    (∀ r tl h' tk', Fr h₀ L h' m → News h₀ L h' (own ++ (tl ++ rest)) → (∀ p ∈ tl, ∀ q ∈ own ++ rest, q.1 < p.1) → VIn (tl ++ rest) r v → Q r { s with heap := h', toks := tk' }) →
    wpAny (model pg w) (ktrTop dp un gd cn cs L a ccd cl outer) (call (.ref fa) rs) Q E s
theorem call_ok (Φ : AFrame w mean mg mb dp un cn cs L a ccd cl outer A₀ base h₀ σ) {n : Nat} (ih : ∀ e v, aev σ n e = some v → AOk w gd dp un cn cs L a ccd cl outer h₀ σ e v) {f : Str} {fa : Addr} {fp pos : Pos} {e : PySem.Expr} {es : List PySem.Expr} {us : List AV} {v : AV}
    (hf : nsIn (hd.heap_1 w.params) mainGlobals f = some (some (.ref fa))) (hk : keepIn (hd.heap_1 w.params) (.ref fa) = true) (hx : (envX cn cs L a ccd cl).kindOf f = some .globalImplicit) (hd : (f == ("__debug__" : Str)) = false)
    (he : ∀ env, eval (.Call (.Name f fp) (e :: es) [] pos) env = (do callWith pos (← eval (.Name f fp) env) [] (backTo pos (starEach (e :: es) env)) (backToKw pos (keywordEach [] env))))
    (hs : mapO (aev σ n) (e :: es) = some us) (C : ACall w gd dp un cn cs L a ccd cl outer h₀ fa us v) : AOk w gd dp un cn cs L a ccd cl outer h₀ σ (.Call (.Name f fp) (e :: es) [] pos) v := by
  intro own rest m s Q E F N V ret
  have A := aevs_ok ih pos _ _ hs
  cases h1 : aev σ n e with
  | none => unfold mapO at hs; rw [h1] at hs; cases hs
  | some u =>
    have hp : (backTo pos (starEach es (envX cn cs L a ccd cl))).any (·.1) = false := by
      unfold mapO at hs
      rw [h1, Option.bind_some] at hs
      cases h2 : mapO (aev σ n) es with
      | none => rw [h2] at hs; cases hs
      | some ws => exact plain_all pos _ h2
    refine Call_ (nameX_K F Φ.X (topRead_of Φ.T) hf ?_ Φ.hk hx hd) (he _)
    refine callWith_K Φ.X hk ?_ (star_plain h1 _ _) hp
    refine A own rest m s _ E F N V fun rs tl h' tk' F' N' l' R => ⟨Φ.X.keeps F'.keep, ?_⟩
    refine C own (tl ++ rest) m _ Q E rs F' N' R fun r tl2 h2 tk2 F2 N2 l2 R2 => ?_
    refine ret r (tl2 ++ tl) h2 tk2 F2 (by rw [List.append_assoc]; exact N2) (tl_lt l' l2) (by rw [List.append_assoc]; exact R2)
theorem room7 {dp n k : Nat} (h : dp + 7 < n) (hk : k ≤ 7) : dp + k < n := Nat.lt_of_le_of_lt (Nat.add_le_add_left hk _) h
theorem room8 {un n k : Nat} (h : un + 8 * 7 < n) (hk : k ≤ 7) : un + 8 * k < n := Nat.lt_of_le_of_lt (Nat.add_le_add_left (Nat.mul_le_mul_left _ hk) _) h
theorem VsIn.one {news : List (Addr × Obj)} {rs : List Value} {a : AV} (h : VsIn news rs [a]) : ∃ v, rs = [v] ∧ VIn news v a := by
  cases h with | cons h1 h =>
    cases h
    exact ⟨_, rfl, h1⟩
theorem VsIn.two {news : List (Addr × Obj)} {rs : List Value} {a b : AV} (h : VsIn news rs [a, b]) : ∃ v u, rs = [v, u] ∧ VIn news v a ∧ VIn news u b := by
  cases h with | cons h1 h =>
    obtain ⟨u, rfl, h2⟩ := h.one
    exact ⟨_, _, rfl, h1, h2⟩
theorem VsIn.three {news : List (Addr × Obj)} {rs : List Value} {a b c : AV} (h : VsIn news rs [a, b, c]) : ∃ v u t, rs = [v, u, t] ∧ VIn news v a ∧ VIn news u b ∧ VIn news t c := by
  cases h with | cons h1 h =>
    obtain ⟨u, t, rfl, h2, h3⟩ := h.two
    exact ⟨_, _, _, rfl, h1, h2, h3⟩
theorem VIn.tupI {news : List (Addr × Obj)} {v : Value} {as : List AV} (h : VIn news v (.tup as)) : ∃ a vs n, v = .ref a ∧ (a, tupO vs n) ∈ news ∧ VsIn news vs as := by
  cases h with | tup h1 h2 => exact ⟨_, _, _, rfl, h1, h2⟩
theorem VIn.lstI {news : List (Addr × Obj)} {v : Value} {as : List AV} (h : VIn news v (.lst as)) : ∃ a vs n, v = .ref a ∧ (a, listOf vs.toArray n) ∈ news ∧ VsIn news vs as := by
  cases h with | lst h1 h2 => exact ⟨_, _, _, rfl, h1, h2⟩
theorem ac_call (Φ : AFrame w mean mg mb dp un cn cs L a ccd cl outer A₀ base h₀ σ) (c : AV) : ACall w gd dp un cn cs L a ccd cl outer h₀ 185 [c] (calA c) := by
  intro own rest m s Q E rs F N R ret
  obtain ⟨v1, rfl, r1⟩ := R.one
  refine Call.use (law_call_spec (news := own ++ rest)) Φ.B F Φ.X N Φ.T Φ.hk (room7 Φ.dp (by decide)) (room8 Φ.un (by decide)) ?_
  rintro r tl h' tk' F' N' l' ⟨a1, b1, t1, u1, t2, u2, y, v4, rfl, rfl⟩
  exact ret _ _ h' tk' F' (own_perm N') l' (.tup (.head _) (.cons .str (.cons .int (.cons (.tup (.tail _ (.head _)) (.cons .str (.cons .int (.cons (r1.mono fun p hp => .tail _ (.tail _ hp)) (.cons .any (.cons .any .nil)))))) .nil))))
theorem lab_of {news : List (Addr × Obj)} {v : Value} {l : AV} (h : VIn news v l) (e : labOk l = true) : ∃ o, LabIn v o := by
  cases h with
  | none => exact ⟨_, .none⟩
  | str => exact ⟨_, .some (of_decide_eq_true e)⟩
  | _ => cases e
theorem ac_for2 (Φ : AFrame w mean mg mb dp un cn cs L a ccd cl outer A₀ base h₀ σ) (l : AV) (r : List AV) (hl : labOk l = true) : ACall w gd dp un cn cs L a ccd cl outer h₀ 193 [l, .tup r] (forA l .none (.tup r)) := by
  intro own rest m s Q E rs F N R ret
  obtain ⟨v1, v2, rfl, r1, r2⟩ := R.two
  obtain ⟨o, ho⟩ := lab_of r1 hl
  obtain ⟨ka, kvs, kn, rfl, hm, hv⟩ := r2.tupI
  refine Call.use (law_for2_spec (news := own ++ rest) (List.mem_append.mpr (.inr hm)) ho) Φ.B F Φ.X N Φ.T Φ.hk (room7 Φ.dp (by decide)) (room8 Φ.un (by decide)) ?_
  rintro r tl h' tk' F' N' l' ⟨a1, b1, t1, u1, t2, u2, rfl, rfl⟩
  have sub : ∀ p ∈ rest, p ∈ [(a1, tupO [.str "for" t1, .int 0 u1, v1, .none, .none, .none, .ref b1] 0), (b1, tupO [.str "block" t2, .int 0 u2, .ref ka] 0)] ++ rest := fun p hp => .tail _ (.tail _ hp)
  exact ret _ _ h' tk' F' (own_perm N') l' (.tup (.head _) (.cons .str (.cons .int (.cons (r1.mono sub) (.cons .none (.cons .none (.cons .none (.cons (.tup (.tail _ (.head _)) (.cons .str (.cons .int (.cons (.tup (sub _ hm) (hv.mono sub)) .nil)))) .nil))))))))
theorem ac_for3 (Φ : AFrame w mean mg mb dp un cn cs L a ccd cl outer A₀ base h₀ σ) (l c : AV) (r : List AV) : ACall w gd dp un cn cs L a ccd cl outer h₀ 193 [l, .tup r, c] (forA l c (.tup r)) := by
  intro own rest m s Q E rs F N R ret
  obtain ⟨v1, v2, v3, rfl, r1, r2, r3⟩ := R.three
  obtain ⟨ka, kvs, kn, rfl, hm, hv⟩ := r2.tupI
  refine Call.use (law_for3_spec (news := own ++ rest) (List.mem_append.mpr (.inr hm))) Φ.B F Φ.X N Φ.T Φ.hk (room7 Φ.dp (by decide)) (room8 Φ.un (by decide)) ?_
  rintro r tl h' tk' F' N' l' ⟨a1, b1, t1, u1, t2, u2, rfl, rfl⟩
  have sub : ∀ p ∈ rest, p ∈ [(a1, tupO [.str "for" t1, .int 0 u1, v1, .none, v3, .none, .ref b1] 0), (b1, tupO [.str "block" t2, .int 0 u2, .ref ka] 0)] ++ rest := fun p hp => .tail _ (.tail _ hp)
  exact ret _ _ h' tk' F' (own_perm N') l' (.tup (.head _) (.cons .str (.cons .int (.cons (r1.mono sub) (.cons .none (.cons (r3.mono sub) (.cons .none (.cons (.tup (.tail _ (.head _)) (.cons .str (.cons .int (.cons (.tup (sub _ hm) (hv.mono sub)) .nil)))) .nil))))))))
theorem ac_switch (Φ : AFrame w mean mg mb dp un cn cs L a ccd cl outer A₀ base h₀ σ) (l : AV) (r : List AV) (hr : r.length ≤ 100) : ACall w gd dp un cn cs L a ccd cl outer h₀ 200 [l, .lst r] (swA l r) := by
  intro own rest m s Q E rs F N R ret
  obtain ⟨v1, v2, rfl, r1, r2⟩ := R.two
  obtain ⟨ka, kvs, kn, rfl, hm, hv⟩ := r2.lstI
  refine Call.use (law_switch_spec (news := own ++ rest) (List.mem_append.mpr (.inr hm)) (by rw [hv.length]; exact hr)) Φ.B F Φ.X N Φ.T Φ.hk (room7 Φ.dp (by decide)) (room8 Φ.un (by decide)) ?_
  rintro r tl h' tk' F' N' l' ⟨a1, b1, t1, u1, rfl, rfl⟩
  have sub : ∀ p ∈ rest, p ∈ [(a1, tupO [.str "switch" t1, .int 0 u1, v1, .none, .none, .ref b1] 0), (b1, tupO kvs 0)] ++ rest := fun p hp => .tail _ (.tail _ hp)
  exact ret _ _ h' tk' F' (own_perm N') l' (.tup (.head _) (.cons .str (.cons .int (.cons (r1.mono sub) (.cons .none (.cons .none (.cons (.tup (.tail _ (.head _)) (hv.mono sub)) .nil)))))))
theorem ac_block (Φ : AFrame w mean mg mb dp un cn cs L a ccd cl outer A₀ base h₀ σ) (r : List AV) : ACall w gd dp un cn cs L a ccd cl outer h₀ 178 [.tup r] (blkA (.tup r)) := by
  intro own rest m s Q E rs F N R ret
  obtain ⟨v1, rfl, r1⟩ := R.one
  obtain ⟨ka, kvs, kn, rfl, hm, hv⟩ := r1.tupI
  refine Call.use (law_block_spec (news := own ++ rest) (List.mem_append.mpr (.inr hm))) Φ.B F Φ.X N Φ.T Φ.hk (room7 Φ.dp (by decide)) (room8 Φ.un (by decide)) ?_
  rintro r tl h' tk' F' N' l' ⟨a1, t1, u1, rfl, rfl⟩
  have sub : ∀ p ∈ rest, p ∈ [(a1, tupO [.str "block" t1, .int 0 u1, .ref ka] 0)] ++ rest := fun p hp => .tail _ hp
  exact ret _ _ h' tk' F' (own_perm N') l' (.tup (.head _) (.cons .str (.cons .int (.cons (.tup (sub _ hm) (hv.mono sub)) .nil))))
end
section
variable {w : World} {mean : ExcName → Option Value} {mg mb : Str → Option Value} {dp un : Nat} {gd : Option (List Code)} {cn : Str} {cs : Scope} {L a : Addr} {ccd : Value} {cl : List (Str × Addr)} {outer : List Env} {A₀ : Around} {base h₀ : Heap} {σ : List (Str × AV)}
theorem acall_inv {f : Str} {us : List AV} {v : AV} (h : acall f us = some v) :
    (f = Str.ofString "_law_call" ∧ ∃ c, us = [c] ∧ v = calA c) ∨ (f = Str.ofString "_law_for" ∧ ∃ l r, us = [l, .tup r] ∧ labOk l = true ∧ v = forA l .none (.tup r)) ∨ (f = Str.ofString "_law_for" ∧ ∃ l r c, us = [l, .tup r, c] ∧ v = forA l c (.tup r)) ∨
    (f = Str.ofString "_law_switch" ∧ ∃ l r, us = [l, .lst r] ∧ r.length ≤ 100 ∧ v = swA l r) ∨ (f = Str.ofString "_law_block" ∧ ∃ r, us = [.tup r] ∧ v = blkA (.tup r)) := by
  unfold acall at h
  split at h
  · split at h
    · cases h; exact .inl ⟨by assumption, _, rfl, rfl⟩
    · cases h
  · split at h
    · split at h
      · split at h
        · cases h; exact .inr (.inl ⟨by assumption, _, _, rfl, by assumption, rfl⟩)
        · cases h
      · cases h; exact .inr (.inr (.inl ⟨by assumption, _, _, _, rfl, rfl⟩))
      · cases h
    · split at h
      · split at h
        · split at h
          · cases h; exact .inr (.inr (.inr (.inl ⟨by assumption, _, _, rfl, by assumption, rfl⟩)))
          · cases h
        · cases h
      · split at h
        · split at h
          · cases h; exact .inr (.inr (.inr (.inr ⟨by assumption, _, rfl, rfl⟩)))
          · cases h
        · cases h
theorem own_push {g h : Heap} {L : Addr} {x : Addr × Obj} {own tl rest : List (Addr × Obj)} (N : News g L h (x :: (own ++ (tl ++ rest)))) : News g L h (own ++ ((x :: tl) ++ rest)) := fun p hp => N p (by
  rcases List.mem_append.mp hp with hp | hp
  · exact .tail _ (List.mem_append.mpr (.inl hp))
  · rcases List.mem_cons.mp hp with rfl | hp
    · exact .head _
    · exact .tail _ (List.mem_append.mpr (.inr hp)))
theorem le_line {n : Nat} (h : n ≤ 100) : n ≤ sizeLine := Nat.le_trans h (by decide)
theorem aev_ok (Φ : AFrame w mean mg mb dp un cn cs L a ccd cl outer A₀ base h₀ σ) : ∀ (n : Nat) (e : PySem.Expr) (v : AV), aev σ n e = some v → AOk w gd dp un cn cs L a ccd cl outer h₀ σ e v
  | 0, _, _, h => nomatch h
  | n + 1, e, v, h => by
    have ih := aev_ok Φ n
    cases e
    case Constant c k p =>
      have h : acst c = some v := h
      cases c
      case none => cases h; exact fun own rest m s Q E F N V ret => wpAny_Constant_none (ret .none [] s.heap s.toks F N (fun _ h => (nomatch h)) .none)
      case bool => cases h; exact fun own rest m s Q E F N V ret => wpAny_Constant_bool (ret _ [] s.heap s.toks F N (fun _ h => (nomatch h)) .bool)
      case int => cases h; exact fun own rest m s Q E F N V ret => wpAny_Constant_int (ret _ [] s.heap _ F N (fun _ h => (nomatch h)) .int)
      case str => cases h; exact fun own rest m s Q E F N V ret => wpAny_Constant_str (ret _ [] s.heap _ F N (fun _ h => (nomatch h)) .str)
      all_goals cases h
    case Name x p =>
      have h : (if x = Str.ofString "_law_x" then some .gx else σ.lookup x) = some v := h
      by_cases hx : x = Str.ofString "_law_x"
      · rw [if_pos hx] at h
        cases h
        subst hx
        exact fun own rest m s Q E F N V ret => nameX_K F Φ.X (topRead_of Φ.T) (v := .ref 171) (by k_is) (ret _ [] s.heap s.toks F N (fun _ h => (nomatch h)) .gx) Φ.hk (Φ.glob _ (.head _))
      · rw [if_neg hx] at h
        intro own rest m s Q E F N V ret
        obtain ⟨u, h1, h2⟩ := V _ _ h
        obtain ⟨k1, k2⟩ := Φ.loc _ (lookup_mem h)
        exact nameX_L F h1 (ret u [] s.heap s.toks F N (fun _ h => (nomatch h)) h2) Φ.hk k1 k2
    case Tuple es c p =>
      have h : (if es.length ≤ 100 then (mapO (aev σ n) es).bind fun vs => some (.tup vs) else none) = some v := h
      by_cases hl : es.length ≤ 100
      · rw [if_pos hl] at h
        cases h1 : mapO (aev σ n) es with
        | none => rw [h1] at h; cases h
        | some vs =>
          rw [h1] at h
          cases h
          intro own rest m s Q E F N V ret
          refine Tuple_ (aevs_ok ih _ es vs h1 own rest m s _ E F N V fun rs tl h' tk' F' N' l' R => ?_)
          refine kup_newTuple F' N' (fun D h2 F2 N2 l2 => ?_) (by rw [R.length, ← mapO_length h1]; exact le_line hl)
          refine ret _ ((D, tupO rs 0) :: tl) h2 tk' F2 (own_push N2) ?_ (.tup (.head _) (R.mono fun p hp => .tail _ hp))
          exact tl_lt (tl' := [(D, tupO rs 0)]) l' fun p hp q hq => by rw [List.mem_singleton.mp hp]; exact l2 q hq
      · rw [if_neg hl] at h; cases h
    case List es p =>
      have h : (if es.length ≤ 100 then (mapO (aev σ n) es).bind fun vs => some (.lst vs) else none) = some v := h
      by_cases hl : es.length ≤ 100
      · rw [if_pos hl] at h
        cases h1 : mapO (aev σ n) es with
        | none => rw [h1] at h; cases h
        | some vs =>
          rw [h1] at h
          cases h
          intro own rest m s Q E F N V ret
          refine List_ (aevs_ok ih _ es vs h1 own rest m s _ E F N V fun rs tl h' tk' F' N' l' R => ?_)
          refine newList_N F' N' (fun h2 F2 N2 => ?_) (by rw [R.length, ← mapO_length h1]; exact le_line hl)
          refine ret _ ((_, listOf rs.toArray 0) :: tl) h2 tk' F2 (own_push N2) ?_ (.lst (.head _) (R.mono fun p hp => .tail _ hp))
          exact tl_lt (tl' := [(_, listOf rs.toArray 0)]) l' fun p hp q hq => by rw [List.mem_singleton.mp hp]; exact Heap.lt_size (N' q hq).1
      · rw [if_neg hl] at h; cases h
    case Call f as ks pos =>
      cases f
      case Name f fp =>
        cases as with
        | nil => cases h
        | cons e es =>
          cases ks with
          | cons _ _ => cases h
          | nil =>
            have h : (mapO (aev σ n) (e :: es)).bind (acall f) = some v := h
            cases h1 : mapO (aev σ n) (e :: es) with
            | none => rw [h1] at h; cases h
            | some us =>
              rw [h1] at h
              rcases acall_inv h with ⟨rfl, c, rfl, rfl⟩ | ⟨rfl, l, r, rfl, hl, rfl⟩ | ⟨rfl, l, r, c, rfl, rfl⟩ | ⟨rfl, l, r, rfl, hr, rfl⟩ | ⟨rfl, r, rfl, rfl⟩
              · exact call_ok Φ ih (by k_is) (by k_is) (Φ.glob _ (.tail _ (.head _))) (by decide) (fun _ => rfl) h1 (ac_call Φ c)
              · exact call_ok Φ ih (by k_is) (by k_is) (Φ.glob _ (.tail _ (.tail _ (.head _)))) (by decide) (fun _ => rfl) h1 (ac_for2 Φ l r hl)
              · exact call_ok Φ ih (by k_is) (by k_is) (Φ.glob _ (.tail _ (.tail _ (.head _)))) (by decide) (fun _ => rfl) h1 (ac_for3 Φ l c r)
              · exact call_ok Φ ih (by k_is) (by k_is) (Φ.glob _ (.tail _ (.tail _ (.tail _ (.head _))))) (by decide) (fun _ => rfl) h1 (ac_switch Φ l r hr)
              · exact call_ok Φ ih (by k_is) (by k_is) (Φ.glob _ (.tail _ (.tail _ (.tail _ (.tail _ (.head _)))))) (by decide) (fun _ => rfl) h1 (ac_block Φ r)
      all_goals cases h
    all_goals cases h
end
end
section
set_option tactic.hygienic false
theorem ln86 : True := by
  k_with_none
  (k_with "room" => first | exact roomE (by assumption) | exact roomD (by assumption) (by first | decide | omega) | ((try simp only [depth_mark, depth_under_make, depth_under_kw, depth_in1, depth_deeper, depth_caller]); (try dsimp only [ktrTop]); omega))
  (k_with "mem" => first | exact List.mem_cons_self | (refine List.mem_cons_of_mem _ ?_; first | ktr_member | k_mem))
  (k_with "enter" => (refine' code_def (by first | (k_asm) | fail "no") (by first | (k_asm) | fail "no") (by first | (k_asm) | fail "no") (by first | (k_asm) | fail "no") (by first | (k_asm) | fail "no") (by first | (exact rfl) | fail "no") (by first | (exact rfl) | fail "no") (by first | (first | exact rfl | assumption) | fail "no") (by first | (k_is) | fail "no") (by first | (k_is) | fail "no") (by first | (k_room) | fail "no") (by first | (first | exact BindsTo.of_eq rfl | exact binds_K (by k_in) rfl (by k_is) rfl rfl rfl) | fail "no") (by first | (exact locs rfl) | fail "no") ?_ (by first | (exact rfl) | fail "no") (by first | (exact rfl) | fail "no") (by first | (exact rfl) | fail "no") (by first | (decide) | fail "no"); k_whole; intro g' L' h' FG' F' N' B' X' T'; (try dsimp only); (try k_fold); (try (refine (let en9 := _; let ar9 := Around.deeper _ en9; (?_ : wpAny _ ar9 (execs _ en9) _ _ _))))))
  (k_with "exec For Name Name cons nil" => (k_here; (rename Fr _ _ _ _ => lF'); (with_unfolding_all refine' For_invVF lF' (by first | (exact rfl) | fail "no") (by first | (exact rfl) | fail "no") ?_; k_whole)))
  (k_with "exec For Name Call cons nil" => (k_here; (rename Fr _ _ _ _ => lF'); (with_unfolding_all refine' For_invVF lF' (by first | (exact rfl) | fail "no") (by first | (exact rfl) | fail "no") ?_; k_whole)))
  (k_with "pyIter ref" => (refine Held.out ?_))
  (k_with "subscriptTail" => (k_here; (with_reducible show wpAny _ _ (subscriptTail _ _ (Value.ref _) (Value.int 0 _)) _ _ _); k_dflt (refine' item0 (by first | (exact News.isTup (by k_asm) (by k_mem)) | fail "no") ?_ (by first | (with_unfolding_all rfl) | fail "no"); k_whole)))
  (k_with "compareOp NotIn str ref" => (k_here; (with_reducible show wpAny _ _ (compareOp CmpOp.NotIn (Value.str _ _) (Value.ref _)) _ _ _); (with_unfolding_all refine' notin_tuple_strs (by first | ((refine' tupK (by first | (k_in) | fail "no") (by first | (k_dflt k_is) | fail "no"))) | fail "no") (by first | (repeat constructor) | fail "no") ?_; k_whole)))
  (k_with "ite" => (refine ite_no (by first | ((simp only [beq_eq_false_iff_ne, ne_eq]; assumption)) | fail "no") ?_))
  (k_with "TurnPost" => (dsimp only [TurnPost]))
  trivial

/-! ## the statements of the table -/
section
variable {w : World} {mean : ExcName → Option Value} {mg mb : Str → Option Value} {dp un : Nat} {gd : Option (List Code)} {cn : Str} {cs : Scope} {L a : Addr} {ccd : Value} {cl : List (Str × Addr)} {outer : List Env} {A₀ : Around} {base h₀ : Heap} {σ : List (Str × AV)}
noncomputable abbrev fnd : Str := Str.ofString "found"
noncomputable def T0s (h₀ h : Heap) (L : Addr) (σ : List (Str × AV)) : Prop := ∃ m rest, Fr h₀ L h m ∧ News h₀ L h rest ∧ EnvIn rest m σ
noncomputable def T1s (h₀ h : Heap) (L : Addr) (σ : List (Str × AV)) (as : List AV) : Prop :=
  ∃ m fa vs n rest, Fr h₀ L h m ∧ News h₀ L h ((fa, listOf vs.toArray n) :: rest) ∧ EnvIn rest m σ ∧ m fnd = some (.ref fa) ∧ VsIn rest vs as ∧ ∀ p ∈ rest, p.1 ≠ fa
noncomputable def AStep (w : World) (gd : Option (List Code)) (dp un : Nat) (cn : Str) (cs : Scope) (L a : Addr) (ccd : Value) (cl : List (Str × Addr)) (outer : List Env) (st : Stmt) (P P' : Heap → Prop) : Prop :=
  ∀ (s : Shared) (Q : Flow → Shared → Prop) (E : Value → Shared → Prop), P s.heap → (∀ h' tk', P' h' → Q .next { s with heap := h', toks := tk' }) → wpAny (model pg w) (ktrTop dp un gd cn cs L a ccd cl outer) (exec st (envX cn cs L a ccd cl)) Q E s
theorem AStep.seq {st : Stmt} {rest : List Stmt} {P P' : Heap → Prop} {s : Shared} {Q : Flow → Shared → Prop} {E : Value → Shared → Prop} (S : AStep w gd dp un cn cs L a ccd cl outer st P P') (hP : P s.heap)
    (h : ∀ h' tk', P' h' → wpAny (model pg w) (ktrTop dp un gd cn cs L a ccd cl outer) (execs rest (envX cn cs L a ccd cl)) Q E { s with heap := h', toks := tk' }) :
    wpAny (model pg w) (ktrTop dp un gd cn cs L a ccd cl outer) (execs (st :: rest) (envX cn cs L a ccd cl)) Q E s :=
  wpAny_execs_cons (S s _ _ hP h)
theorem EnvIn.store {news : List (Addr × Obj)} {m : Str → Option Value} {x : Str} {v : Value} {b : AV} (V : EnvIn news m σ) (h : VIn news v b) : EnvIn news (fun y => if y = x then some v else m y) ((x, b) :: σ) := fun y c e => by
  rw [List.lookup_cons] at e
  by_cases q : y = x
  · subst q
    simp only [beq_self_eq_true] at e
    cases e
    exact ⟨v, if_pos rfl, h⟩
  · rw [show (y == x) = false from beq_eq_false_iff_ne.mpr q] at e
    obtain ⟨u, h1, h2⟩ := V y c e
    exact ⟨u, by show (if y = x then some v else m y) = _; rw [if_neg q]; exact h1, h2⟩
theorem EnvIn.skip {news : List (Addr × Obj)} {m : Str → Option Value} {x : Str} {v : Value} (V : EnvIn news m σ) (hn : σ.lookup x = none) : EnvIn news (fun y => if y = x then some v else m y) σ := fun y c e => by
  by_cases q : y = x
  · subst q; rw [hn] at e; cases e
  · obtain ⟨u, h1, h2⟩ := V y c e
    exact ⟨u, by show (if y = x then some v else m y) = _; rw [if_neg q]; exact h1, h2⟩
theorem st_name (Φ : AFrame w mean mg mb dp un cn cs L a ccd cl outer A₀ base h₀ σ) {n : Nat} {x : Str} {xp pos : Pos} {e : PySem.Expr} {v : AV} {as : List AV} (he : aev σ n e = some v) (hx : (envX cn cs L a ccd cl).kindOf x = some .local) (hf : x ≠ fnd) (hs : swapsWith e (some (.Name x xp)) pos.line (envX cn cs L a ccd cl) = pure false) :
    AStep w gd dp un cn cs L a ccd cl outer (.Assign [.Name x xp] e pos) (fun h => T1s h₀ h L σ as) (fun h => T1s h₀ h L ((x, v) :: σ) as) := by
  rintro s Q E ⟨m, fa, vs, k, rest, F, N, V, hm, R, hap⟩ ret
  refine wpAny_Assign_Name (aev_ok Φ n e v he [(fa, listOf vs.toArray k)] rest m s _ E F N V fun r tl h' tk' F' N' l' G => ?_) hs
  refine storeX_L F' N' (fun h2 F2 N2 => ?_) Φ.hk hx
  refine ret _ _ ⟨_, fa, vs, k, tl ++ rest, F2, N2, (V.mono fun p hp => List.mem_append.mpr (.inr hp)).store G, ?_, R.mono fun p hp => List.mem_append.mpr (.inr hp), fun p hp => ?_⟩
  · show (if fnd = x then _ else m fnd) = _
    rw [if_neg (Ne.symm hf)]; exact hm
  · rcases List.mem_append.mp hp with hp | hp
    · exact Nat.ne_of_gt (l' p hp (fa, listOf vs.toArray k) (.head _))
    · exact hap p hp
theorem st_found (Φ : AFrame w mean mg mb dp un cn cs L a ccd cl outer A₀ base h₀ σ) {n : Nat} {xp pos : Pos} {es : List PySem.Expr} {ep : Pos} {as : List AV} (he : mapO (aev σ n) es = some as) (hl : es.length ≤ 100) (hx : (envX cn cs L a ccd cl).kindOf fnd = some .local) (hn : σ.lookup fnd = none) (hs : swapsWith (.List es ep) (some (.Name fnd xp)) pos.line (envX cn cs L a ccd cl) = pure false) :
    AStep w gd dp un cn cs L a ccd cl outer (.Assign [.Name fnd xp] (.List es ep) pos) (fun h => T0s h₀ h L σ) (fun h => T1s h₀ h L σ as) := by
  rintro s Q E ⟨m, rest, F, N, V⟩ ret
  refine wpAny_Assign_Name (List_ (aevs_ok (aev_ok Φ n) _ es as he [] rest m s _ E F N V fun rs tl h' tk' F' N' l' G => ?_)) hs
  refine newList_N F' N' (fun h2 F2 N2 => ?_) (by rw [G.length, ← mapO_length he]; exact le_line hl)
  refine storeX_L F2 N2 (fun h3 F3 N3 => ?_) Φ.hk hx
  exact ret _ _ ⟨_, _, rs, 0, tl ++ rest, F3, N3, (V.mono fun p hp => List.mem_append.mpr (.inr hp)).skip hn, if_pos rfl, G, fun p hp => Nat.ne_of_lt (Heap.lt_size (N' p hp).1)⟩
theorem st_add (Φ : AFrame w mean mg mb dp un cn cs L a ccd cl outer A₀ base h₀ σ) {n : Nat} {xp p1 p2 pos : Pos} {es : List PySem.Expr} {ep : Pos} {as bs : List AV} (he : mapO (aev σ n) es = some bs) (hl : es.length ≤ 100) (hz : as.length + bs.length ≤ 100) (hx : (envX cn cs L a ccd cl).kindOf fnd = some .local) (hn : σ.lookup fnd = none)
    (hs : swapsWith (.BinOp (.Name fnd p1) .Add (.List es ep) p2) (some (.Name fnd xp)) pos.line (envX cn cs L a ccd cl) = pure false) :
    AStep w gd dp un cn cs L a ccd cl outer (.Assign [.Name fnd xp] (.BinOp (.Name fnd p1) .Add (.List es ep) p2) pos) (fun h => T1s h₀ h L σ as) (fun h => T1s h₀ h L σ (as ++ bs)) := by
  rintro s Q E ⟨m, fa, vs, k, rest, F, N, V, hm, R, hap⟩ ret
  refine wpAny_Assign_Name (wpAny_BinOp (nameX_L F hm ?_ Φ.hk hx)) hs
  refine List_ (aevs_ok (aev_ok Φ n) _ es bs he [(fa, listOf vs.toArray k)] rest m s _ E F N V fun rs tl h' tk' F' N' l' G => ?_)
  refine newList_N F' N' (fun h2 F2 N2 => ?_) (by rw [G.length, ← mapO_length he]; exact le_line hl)
  have hlen : vs.toArray.toList.length + rs.toArray.toList.length ≤ 100 := by
    rw [List.toList_toArray, List.toList_toArray, R.length, G.length]; exact hz
  refine kmk_add_lit F2 N2 (zs := vs ++ rs) (News.isList N2 (.tail _ (.head _))) (News.isList N2 (.head _)) (by rw [List.toList_toArray, List.toList_toArray]) (fun D h3 F3 N3 l3 => ?_) (le_line hlen)
  refine storeX_L F3 N3 (fun h4 F4 N4 => ?_) Φ.hk hx
  refine ret _ _ ⟨_, D, vs ++ rs, 0, tl ++ rest, F4, fun p hp => N4 p ?_, (V.mono fun p hp => List.mem_append.mpr (.inr hp)).skip hn, if_pos rfl, (R.mono fun p hp => List.mem_append.mpr (.inr hp)).append G, fun p hp => Nat.ne_of_lt (l3 p (.tail _ (.tail _ hp)))⟩
  rcases List.mem_cons.mp hp with rfl | hp
  · exact .head _
  · exact .tail _ (.tail _ (.tail _ hp))
theorem st_append (Φ : AFrame w mean mg mb dp un cn cs L a ccd cl outer A₀ base h₀ σ) {n : Nat} {p1 p2 p3 p4 : Pos} {e : PySem.Expr} {v : AV} {as : List AV} {pl : Sem Bool} (he : aev σ n e = some v) (hz : as.length ≤ 100) (hx : (envX cn cs L a ccd cl).kindOf fnd = some .local)
    (hme : eval (.Call (.Attribute (.Name fnd p1) (Str.ofString "append") p2) [e] [] p3) (envX cn cs L a ccd cl) = (do
      let ov ← eval (.Name fnd p1) (envX cn cs L a ccd cl)
      standAt p2.atName
      let (f, first) ← holding [ov] (getMethod ov (Str.ofString "append") pl)
      callWith p3 f first (backTo p3 (starEach [e] (envX cn cs L a ccd cl))) []))
    (hi : interactive (envX cn cs L a ccd cl) = false) (hs : swapsWith (.Call (.Attribute (.Name fnd p1) (Str.ofString "append") p2) [e] [] p3) none p4.line (envX cn cs L a ccd cl) = pure false) :
    AStep w gd dp un cn cs L a ccd cl outer (.Expr (.Call (.Attribute (.Name fnd p1) (Str.ofString "append") p2) [e] [] p3) p4) (fun h => T1s h₀ h L σ as) (fun h => T1s h₀ h L σ (as ++ [v])) := by
  rintro s Q E ⟨m, fa, vs, k, rest, F, N, V, hm, R, hap⟩ ret
  refine wpAny_Expr (MethodCall_ (pl := pl) (nameX_L F hm ?_ Φ.hk hx) hme) hi hs
  refine getMethod_append_N N (.head _) ?_
  refine callWith_method1 (spliced_more (aev_ok Φ n e v he [(fa, listOf vs.toArray k)] rest m s _ E F N V fun r tl h' tk' F' N' l' G => ?_) (star_plain he _ _)) (star_plain he _ _) rfl
  refine spliced_none ?_
  refine append_head (hsz := by rw [List.size_toArray, R.length]; exact le_line hz) F' N' (fun p hp => ?_) fun h2 F2 N2 => ?_
  · have hp : p ∈ tl ++ rest := hp
    rcases List.mem_append.mp hp with hp | hp
    · exact Nat.ne_of_gt (l' p hp (fa, listOf vs.toArray k) (.head _))
    · exact hap p hp
  · refine ret _ _ ⟨m, fa, vs ++ [r], k + 1, tl ++ rest, F2, ?_, V.mono fun p hp => List.mem_append.mpr (.inr hp), hm, (R.mono fun p hp => List.mem_append.mpr (.inr hp)).append (.cons G .nil), fun p hp => ?_⟩
    · rw [show (vs ++ [r]).toArray = vs.toArray.push r by simp]
      exact N2
    · rcases List.mem_append.mp hp with hp | hp
      · exact Nat.ne_of_gt (l' p hp (fa, listOf vs.toArray k) (.head _))
      · exact hap p hp
end
section
variable {w : World} {mean : ExcName → Option Value} {mg mb : Str → Option Value} {dp un : Nat} {gd : Option (List Code)} {cn : Str} {cs : Scope} {L a : Addr} {ccd : Value} {cl : List (Str × Addr)} {outer : List Env} {A₀ : Around} {base h₀ : Heap} {σ : List (Str × AV)}
theorem st_tup2 (Φ : AFrame w mean mg mb dp un cn cs L a ccd cl outer A₀ base h₀ σ) {n k : Nat} {x1 x2 : Str} {q1 q2 tp pos : Pos} {e : PySem.Expr} {v1 v2 : AV} (he : aev σ n e = some (.tup [v1, v2])) (hx1 : (envX cn cs L a ccd cl).kindOf x1 = some .local) (hx2 : (envX cn cs L a ccd cl).kindOf x2 = some .local)
    (hs : swapsWithSole [.Tuple [.Name x1 q1, .Name x2 q2] k tp] e pos.line (envX cn cs L a ccd cl) = pure false) (hw : swappedStores [.Tuple [.Name x1 q1, .Name x2 q2] k tp] e (envX cn cs L a ccd cl) = pure (some [x1, x2])) :
    AStep w gd dp un cn cs L a ccd cl outer (.Assign [.Tuple [.Name x1 q1, .Name x2 q2] k tp] e pos) (fun h => T0s h₀ h L σ) (fun h => T0s h₀ h L ((x1, v1) :: (x2, v2) :: σ)) := by
  rintro s Q E ⟨m, rest, F, N, V⟩ ret
  refine Assign_Tuple_swapped (aev_ok Φ n e _ he [] rest m s _ E F N V fun r tl h' tk' F' N' l' G => ?_) hs hw
  obtain ⟨t, vs, n', rfl, ht, R⟩ := G.tupI
  obtain ⟨u1, u2, rfl, r1, r2⟩ := R.two
  refine unpackItems_tuple (items := [u1, u2].toArray) rfl (News.isTup N' ht) fun h2 x2' => ?_
  have k2 : ∀ b o, h'.get? b = some o → h2.get? b = some o := fun b o e => x2' b o (Nat.ne_of_lt (Heap.lt_size e)) e
  show wpAny _ _ (assignInOrder [bindName _ x2, bindName _ x1] [u2, u1]) _ _ _
  refine assignInOrder_cons (bindName_ (storeX_L (F'.keeps k2) (N'.grown k2) (fun h3 F3 N3 => ?_) Φ.hk hx2))
  refine assignInOrder_cons (bindName_ (storeX_L F3 N3 (fun h4 F4 N4 => assignInOrder_nil ?_) Φ.hk hx1))
  exact ret _ _ ⟨_, _, F4, N4, ((V.mono fun p hp => List.mem_append.mpr (.inr hp)).store r2).store r1⟩
theorem st_tup3 (Φ : AFrame w mean mg mb dp un cn cs L a ccd cl outer A₀ base h₀ σ) {n k : Nat} {x1 x2 x3 : Str} {q1 q2 q3 tp pos : Pos} {e : PySem.Expr} {v1 v2 v3 : AV} (he : aev σ n e = some (.tup [v1, v2, v3])) (hx1 : (envX cn cs L a ccd cl).kindOf x1 = some .local) (hx2 : (envX cn cs L a ccd cl).kindOf x2 = some .local) (hx3 : (envX cn cs L a ccd cl).kindOf x3 = some .local)
    (hs : swapsWithSole [.Tuple [.Name x1 q1, .Name x2 q2, .Name x3 q3] k tp] e pos.line (envX cn cs L a ccd cl) = pure false) (hw : swappedStores [.Tuple [.Name x1 q1, .Name x2 q2, .Name x3 q3] k tp] e (envX cn cs L a ccd cl) = pure none) :
    AStep w gd dp un cn cs L a ccd cl outer (.Assign [.Tuple [.Name x1 q1, .Name x2 q2, .Name x3 q3] k tp] e pos) (fun h => T0s h₀ h L σ) (fun h => T0s h₀ h L ((x3, v3) :: (x2, v2) :: (x1, v1) :: σ)) := by
  rintro s Q E ⟨m, rest, F, N, V⟩ ret
  refine Assign_Tuple (aev_ok Φ n e _ he [] rest m s _ E F N V fun r tl h' tk' F' N' l' G => ?_) hs hw
  obtain ⟨t, vs, n', rfl, ht, R⟩ := G.tupI
  obtain ⟨u1, u2, u3, rfl, r1, r2, r3⟩ := R.three
  refine assign_Tuple_tuple rfl (News.isTup N' ht) rfl rfl fun h2 x2' => ?_
  have k2 : ∀ b o, h'.get? b = some o → h2.get? b = some o := fun b o e => x2' b o (Nat.ne_of_lt (Heap.lt_size e)) e
  refine assignInOrder_cons (PyProof.Rows.assign_Name (storeX_L (F'.keeps k2) (N'.grown k2) (fun h3 F3 N3 => ?_) Φ.hk hx1))
  refine assignInOrder_cons (PyProof.Rows.assign_Name (storeX_L F3 N3 (fun h4 F4 N4 => ?_) Φ.hk hx2))
  refine assignInOrder_cons (PyProof.Rows.assign_Name (storeX_L F4 N4 (fun h5 F5 N5 => assignInOrder_nil ?_) Φ.hk hx3))
  exact ret _ _ ⟨_, _, F5, N5, (((V.mono fun p hp => List.mem_append.mpr (.inr hp)).store r1).store r2).store r3⟩
end
end
section
theorem ln87 : True := by
  k_with_none
  (k_with "room" => first | exact roomE (by assumption) | exact roomD (by assumption) (by first | decide | omega) | ((try simp only [depth_mark, depth_under_make, depth_under_kw, depth_in1, depth_deeper, depth_caller]); (try dsimp only [ktrTop]); omega))
  (k_with "mem" => first | exact List.mem_cons_self | (refine List.mem_cons_of_mem _ ?_; first | ktr_member | k_mem))
  (k_with "enter" => (refine' code_def (by first | (k_asm) | fail "no") (by first | (k_asm) | fail "no") (by first | (k_asm) | fail "no") (by first | (k_asm) | fail "no") (by first | (k_asm) | fail "no") (by first | (exact rfl) | fail "no") (by first | (exact rfl) | fail "no") (by first | (first | exact rfl | assumption) | fail "no") (by first | (k_is) | fail "no") (by first | (k_is) | fail "no") (by first | (k_room) | fail "no") (by first | (first | exact BindsTo.of_eq rfl | exact binds_K (by k_in) rfl (by k_is) rfl rfl rfl) | fail "no") (by first | (exact locs rfl) | fail "no") ?_ (by first | (exact rfl) | fail "no") (by first | (exact rfl) | fail "no") (by first | (exact rfl) | fail "no") (by first | (decide) | fail "no"); k_whole; intro g' L' h' FG' F' N' B' X' T'; (try dsimp only); (try k_fold); (try (refine (let en9 := _; let ar9 := Around.deeper _ en9; (?_ : wpAny _ ar9 (execs _ en9) _ _ _))))))
  (k_with "exec For Name Name cons nil" => (k_here; (rename Fr _ _ _ _ => lF'); (with_unfolding_all refine' For_invVF lF' (by first | (exact rfl) | fail "no") (by first | (exact rfl) | fail "no") ?_; k_whole)))
  (k_with "exec For Name Call cons nil" => (k_here; (rename Fr _ _ _ _ => lF'); (with_unfolding_all refine' For_invVF lF' (by first | (exact rfl) | fail "no") (by first | (exact rfl) | fail "no") ?_; k_whole)))
  (k_with "pyIter ref" => (refine Held.out ?_))
  (k_with "subscriptTail" => (k_here; (with_reducible show wpAny _ _ (subscriptTail _ _ (Value.ref _) (Value.int 0 _)) _ _ _); k_dflt (refine' item0 (by first | (exact News.isTup (by k_asm) (by k_mem)) | fail "no") ?_ (by first | (with_unfolding_all rfl) | fail "no"); k_whole)))
  (k_with "compareOp NotIn str ref" => (k_here; (with_reducible show wpAny _ _ (compareOp CmpOp.NotIn (Value.str _ _) (Value.ref _)) _ _ _); (with_unfolding_all refine' notin_tuple_strs (by first | ((refine' tupK (by first | (k_in) | fail "no") (by first | (k_dflt k_is) | fail "no"))) | fail "no") (by first | (repeat constructor) | fail "no") ?_; k_whole)))
  (k_with "ite" => (refine ite_no (by first | ((simp only [beq_eq_false_iff_ne, ne_eq]; assumption)) | fail "no") ?_))
  (k_with "TurnPost" => (dsimp only [TurnPost]))
  trivial

/-- the rows get their four last parts -/
noncomputable def addRow : AV → AV
  | .tup l => .tup (l ++ [.bool false, .lst [], .bool false, .bool false])
  | v => v
noncomputable def isRow : AV → Bool
  | .tup (_ :: r) => decide (r.length ≤ 90)
  | _ => false
section
variable {w : World} {mean : ExcName → Option Value} {mg mb : Str → Option Value} {dp un : Nat} {gd : Option (List Code)} {cn : Str} {cs : Scope} {L a : Addr} {ccd : Value} {cl : List (Str × Addr)} {outer : List Env} {A₀ : Around} {base h₀ : Heap} {σ : List (Str × AV)}
theorem VsIn.get {news : List (Addr × Obj)} : ∀ {vs : List Value} {as : List AV} {i : Nat} {v : Value}, VsIn news vs as → vs[i]? = some v → ∃ b, as[i]? = some b ∧ VIn news v b
  | _, _, 0, _, .cons h _, e => by cases e; exact ⟨_, rfl, h⟩
  | _, _, i + 1, _, .cons _ r, e => by
    obtain ⟨s, h1, h2⟩ := r.get (i := i) (by simpa using e)
    exact ⟨s, by simpa using h1, h2⟩
theorem add_tup_raw {A : Around} {s : Shared} {Q E : Value → Shared → Prop} {t b : Addr} {vs ws : List Value} {n n2 : Nat} (ht : s.heap.get? t = some (tupO vs n)) (hb : s.heap.get? b = some (tupO ws n2)) (hv : vs ≠ []) (hw : ws ≠ []) (hz : vs.length + ws.length ≤ sizeLine)
    (h : Q (.ref s.heap.objs.size) { s with heap := s.heap.push (tupO (vs ++ ws) 0) }) : wpAny (model pg w) A (binaryOp .Add (.ref t) (.ref b)) Q E s := by
  have e : vs.toArray ++ ws.toArray = (vs ++ ws).toArray := by simp
  refine concat_meets ⟨_, ht, rfl⟩ ⟨_, hb, rfl⟩ noFill_tuple_add seq_tuple_add PySem.F.slot_tuple_add PySem.F.entry_tuple_add (PySem.F.args_tuple_add_2 _ _)
    (tuple_addW2 t b vs.toArray ws.toArray n n2 _ _ _ _ (by simpa using hv) (by simpa using hw) (by rw [List.size_toArray, List.size_toArray]; exact hz)) ⟨ht, hb, ?_⟩
  rw [e]
  exact h
theorem new_tup_raw {A : Around} {s : Shared} {Q E : Value → Shared → Prop} {vs : List Value} (hz : vs.length ≤ sizeLine) (h : Q (.ref s.heap.objs.size) { s with heap := s.heap.push (tupO vs 0) }) : wpAny (model pg w) A (newTuple vs) Q E s :=
  wpAny_newObj_type h (by show vs.toArray.size ≤ sizeLine; rw [List.size_toArray]; exact hz)
theorem new_lst_raw {A : Around} {s : Shared} {Q E : Value → Shared → Prop} {vs : List Value} (hz : vs.length ≤ sizeLine) (h : Q (.ref s.heap.objs.size) { s with heap := s.heap.push (listOf vs.toArray 0) }) : wpAny (model pg w) A (newList vs) Q E s :=
  wpAny_newObj_type h (by show vs.toArray.size ≤ sizeLine; rw [List.size_toArray]; exact hz)
/-- the element of the comprehension: row + (False, [], False, False) -/
theorem elt_ok {A : Around} {env : Env} {scope : Scope} {C : Addr} {g : Heap} {mC : Str → Option Value} {x : Str} {k : Nat} {p1 q1 q2 q3 q4 tp bp : Pos} {k1 k2 k3 : Nat} {s : Shared} {t : Addr} {vs : List Value} {n : Nat} {Q E : Value → Shared → Prop}
    (F : Fr g C s.heap mC) (hv : mC x = some (.ref t)) (hk : (compEnvC scope cl C env).scope.kind = .function) (hl : (compEnvC scope cl C env).kindOf x = some .local) (hd : (x == ("__debug__" : Str)) = false) (ht : s.heap.get? t = some (tupO vs n)) (hne : vs ≠ []) (hz : vs.length ≤ 100)
    (h : ∀ D l h' tk', (∀ b o, s.heap.get? b = some o → h'.get? b = some o) → h'.get? D = some (tupO (vs ++ [.bool false, .ref l, .bool false, .bool false]) 0) → h'.get? l = some (listOf #[] 0) → s.heap.objs.size ≤ D → s.heap.objs.size ≤ l → Q (.ref D) { s with heap := h', toks := tk' }) :
    wpAny (model pg w) A (eval (.BinOp (.Name x p1) .Add (.Tuple [.Constant (.bool false) k1 q1, .List [] q2, .Constant (.bool false) k2 q3, .Constant (.bool false) k3 q4] k tp) bp) (compEnvC scope cl C env)) Q E s := by
  refine wpAny_BinOp (ldVarK F.ns hv ?_ hk hl hd)
  refine Tuple_ (spliced_more (wpAny_Constant_bool (spliced_more (List_ (spliced_none ?_)))))
  refine new_lst_raw (Nat.zero_le _) ?_
  refine spliced_more (wpAny_Constant_bool (spliced_more (wpAny_Constant_bool (spliced_none ?_))))
  refine new_tup_raw (Nat.le_of_ble_eq_true rfl) ?_
  have z1 : (s.heap.push (listOf ([] : List Value).toArray 0)).objs.size = s.heap.objs.size + 1 := Heap.size_push _ _
  have z2 : ((s.heap.push (listOf ([] : List Value).toArray 0)).push (tupO [.bool false, .ref s.heap.objs.size, .bool false, .bool false] 0)).objs.size = s.heap.objs.size + 2 := by rw [Heap.size_push, z1]
  refine add_tup_raw (Heap.get?_push_of_some _ (Heap.get?_push_of_some _ ht)) (Heap.get?_push_size _ rfl) hne (List.cons_ne_nil _ _) (Nat.le_trans (Nat.add_le_add_right hz 4) (Nat.le_of_ble_eq_true rfl)) ?_
  refine h _ s.heap.objs.size _ s.toks (fun b o e => Heap.get?_push_of_some _ (Heap.get?_push_of_some _ (Heap.get?_push_of_some _ e))) (Heap.get?_push_size _ rfl) (Heap.get?_push_of_some _ (Heap.get?_push_of_some _ (Heap.get?_push_size _ rfl))) ?_ (Nat.le_refl _)
  show s.heap.objs.size ≤ ((s.heap.push _).push _).objs.size
  rw [z2]; exact Nat.le_add_right _ 2
end
section
variable {w : World} {mean : ExcName → Option Value} {mg mb : Str → Option Value} {dp un : Nat} {gd : Option (List Code)} {cn : Str} {cs : Scope} {L a : Addr} {ccd : Value} {cl : List (Str × Addr)} {outer : List Env} {A₀ : Around} {base h₀ : Heap} {σ : List (Str × AV)}
theorem row_in {news : List (Addr × Obj)} {v : Value} {b : AV} (h : VIn news v b) (hb : isRow b = true) : ∃ t vs n l, b = .tup l ∧ v = .ref t ∧ (t, tupO vs n) ∈ news ∧ VsIn news vs l ∧ vs ≠ [] ∧ vs.length ≤ 100 := by
  unfold isRow at hb
  split at hb
  · rename_i x r
    obtain ⟨t, vs, n, rfl, h1, h2⟩ := h.tupI
    have hl := h2.length
    have hr := of_decide_eq_true hb
    rw [List.length_cons] at hl
    refine ⟨t, vs, n, _, rfl, rfl, h1, h2, fun e => ?_, by omega⟩
    rw [e] at hl; cases hl
  · cases hb
theorem st_comp (Φ : AFrame w mean mg mb dp un cn cs L a ccd cl outer A₀ base h₀ σ) {n : Nat} {x : Str} {xp px p1 q1 q2 q3 q4 tp bp f1 f2 pos spos : Pos} {k k1 k2 k3 : Nat} {es : List PySem.Expr} {ep : Pos} {scope : Scope} {as bs : List AV} (he : mapO (aev σ n) es = some bs) (hl : es.length ≤ 100) (hz : as.length + bs.length ≤ 100) (hrow : ((as ++ bs).all isRow) = true) (hfx : (envX cn cs L a ccd cl).kindOf fnd = some .local) (hn : σ.lookup fnd = none)
    (hclos : closureFor scope (envX cn cs L a ccd cl) = pure []) (hcell : ∀ y ∈ scope.names, y.2 ≠ .cell) (hkind : scope.kind = .function) (hnames : ∀ y ∈ scope.names, y.2 = .local → scope.names.lookup y.1 = some .local) (hx : scope.names.lookup x = some .local) (hxd : (x == ("__debug__" : Str)) = false)
    (hs : swapsWith (.ListComp (.BinOp (.Name x p1) .Add (.Tuple [.Constant (.bool false) k1 q1, .List [] q2, .Constant (.bool false) k2 q3, .Constant (.bool false) k3 q4] k tp) bp) [⟨.Name x px, .BinOp (.Name fnd f1) .Add (.List es ep) f2, [], 0⟩] scope pos) (some (.Name fnd xp)) spos.line (envX cn cs L a ccd cl) = pure true) :
    AStep w gd dp un cn cs L a ccd cl outer (.Assign [.Name fnd xp] (.ListComp (.BinOp (.Name x p1) .Add (.Tuple [.Constant (.bool false) k1 q1, .List [] q2, .Constant (.bool false) k2 q3, .Constant (.bool false) k3 q4] k tp) bp) [⟨.Name x px, .BinOp (.Name fnd f1) .Add (.List es ep) f2, [], 0⟩] scope pos) spos)
      (fun h => T1s h₀ h L σ as) (fun h => T1s h₀ h L σ ((as ++ bs).map addRow)) := by
  rintro s Q E ⟨m, fa, vs, kk, rest, F, N, V, hm, R, hap⟩ ret
  refine comp_assign hs rfl hclos hcell hkind hnames hx hfx (by show (cs.kind == .class || (cs.kind == .module && L != mainGlobals)) = false; rw [Φ.hk]; rfl) ?_ (by intro _; rfl)
  refine wpAny_BinOp (nameX_L F hm ?_ Φ.hk hfx)
  refine List_ (aevs_ok (aev_ok Φ n) _ es bs he [(fa, listOf vs.toArray kk)] rest m s _ E F N V fun rs tl h' tk' F' N' l' G => ?_)
  refine newList_N F' N' (fun h2 F2 N2 => ?_) (by rw [G.length, ← mapO_length he]; exact le_line hl)
  have hlen : vs.toArray.toList.length + rs.toArray.toList.length ≤ 100 := by
    rw [List.toList_toArray, List.toList_toArray, R.length, G.length]; exact hz
  refine kmk_add_lit F2 N2 (zs := vs ++ rs) (News.isList N2 (.tail _ (.head _))) (News.isList N2 (.head _)) (by rw [List.toList_toArray, List.toList_toArray]) (fun D h3 F3 N3 l3 => ?_) (le_line hlen)
  have sub : ∀ p ∈ rest, p ∈ tl ++ rest := fun p hp => List.mem_append.mpr (.inr hp)
  have RS : VsIn (tl ++ rest) (vs ++ rs) (as ++ bs) := (R.mono sub).append G
  have hvl : (vs ++ rs).length = (as ++ bs).length := RS.length
  have N3' : ∀ p ∈ tl ++ rest, h3.get? p.1 = some p.2 := fun p hp => (N3 p (.tail _ (.tail _ (.tail _ hp)))).1
  refine Held.intro ⟨D, vs ++ rs, fun i ys tl2 => VsIn (tl2 ++ (tl ++ rest)) ys (((as ++ bs).take i).map addRow), h₀, m, rfl, .inr (News.isList N3 (.head _)), le_line (by rw [hvl, List.length_append]; exact hz), F3, .nil, ?_, ?_⟩
  · intro C i v ys tl2 s₃ mC E' hv hCs hG hns hm' hkp ht2
    refine wpAny_pure (Held.intro ⟨Keeps.rfl' _, ?_⟩)
    rw [if_pos rfl]
    obtain ⟨b, hb, hV⟩ := RS.get hv
    obtain ⟨t, us, n', l, rfl, rfl, h4, h5, h6, h7⟩ := row_in hV (List.all_eq_true.mp hrow b (List.mem_of_getElem? hb))
    refine elt_ok (frInComp hns hkp hCs) hm' hkind (lookup_relabel_local hx) hxd (hkp _ _ (N3' _ h4)) h6 h7 fun D' l' h'' tk'' kp d1 d2 d3 d4 => ?_
    refine Held.intro ⟨⟨h'', tk'', rfl, kp⟩, [(D', tupO (us ++ [.bool false, .ref l', .bool false, .bool false]) 0), (l', listOf #[] 0)], fun p hp => ?_, ?_⟩
    · rcases List.mem_cons.mp hp with rfl | hp
      · exact ⟨d1, d3⟩
      · rw [List.mem_singleton.mp hp]; exact ⟨d2, d4⟩
    · have s2 : ∀ p ∈ tl2 ++ (tl ++ rest), p ∈ ([(D', tupO (us ++ [.bool false, .ref l', .bool false, .bool false]) 0), (l', listOf #[] 0)] ++ tl2) ++ (tl ++ rest) := fun p hp => .tail _ (.tail _ hp)
      have e2 : ((as ++ bs).take (i + 1)).map addRow = ((as ++ bs).take i).map addRow ++ [addRow (.tup l)] := by
        rw [List.take_add_one, hb, List.map_append]; rfl
      show VsIn _ _ (((as ++ bs).take (i + 1)).map addRow)
      rw [e2]
      exact (VsIn.mono s2 hG).append (.cons (.tup (.head _) ((h5.mono fun p hp => s2 _ (List.mem_append.mpr (.inr hp))).append (.cons .bool (.cons (.lst (vs := []) (.tail _ (.head _)) .nil) (.cons .bool (.cons .bool .nil)))))) .nil)
  · intro D2 h' tk ys tl2 k₀ hD hG F8 hkp hDo ht
    have hG' : VsIn (tl2 ++ (tl ++ rest)) ys ((as ++ bs).map addRow) := by
      have := hG
      rw [show (vs ++ rs).length = (as ++ bs).length from hvl, List.take_length] at this
      exact this
    have hLlt : L < h3.objs.size := F3.ns.lt
    have hge : ∀ b, h3.objs.size ≤ b → b ≠ L := fun b hb e => absurd hLlt (Nat.not_lt.mpr (by rw [← e]; exact hb))
    have fresh : ∀ b, h3.objs.size ≤ b → h₀.get? b = none := fun b hb => by
      cases q : h₀.get? b with
      | none => rfl
      | some o => exact absurd (Heap.lt_size (F3.keep _ _ q)) (Nat.not_lt.mpr hb)
    refine ret _ _ ⟨_, D2, ys, k₀, tl2 ++ (tl ++ rest), F8, fun p hp => ?_, ((V.mono sub).mono fun p hp => List.mem_append.mpr (.inr hp)).skip hn, if_pos rfl, hG', fun p hp => ?_⟩
    · rcases List.mem_cons.mp hp with rfl | hp
      · exact ⟨hDo, hge _ hD, fresh _ hD⟩
      · rcases List.mem_append.mp hp with hp | hp
        · exact ⟨(ht p hp).1, hge _ (ht p hp).2.2, fresh _ (ht p hp).2.2⟩
        · have z := N3 p (.tail _ (.tail _ (.tail _ hp)))
          exact ⟨hkp _ _ z.2.1 z.1, z.2.1, z.2.2⟩
    · rcases List.mem_append.mp hp with hp | hp
      · exact (ht p hp).2.1
      · exact Nat.ne_of_lt (Nat.lt_of_lt_of_le (Heap.lt_size (N3' p hp)) hD)
end
end
section
set_option tactic.hygienic false
theorem ln88 : True := by
  k_with_none
  (k_with "room" => first | exact roomE (by assumption) | exact roomD (by assumption) (by first | decide | omega) | ((try simp only [depth_mark, depth_under_make, depth_under_kw, depth_in1, depth_deeper, depth_caller]); (try dsimp only [ktrTop]); omega))
  (k_with "mem" => first | exact List.mem_cons_self | (refine List.mem_cons_of_mem _ ?_; first | ktr_member | k_mem))
  (k_with "enter" => (refine' code_def (by first | (k_asm) | fail "no") (by first | (k_asm) | fail "no") (by first | (k_asm) | fail "no") (by first | (k_asm) | fail "no") (by first | (k_asm) | fail "no") (by first | (exact rfl) | fail "no") (by first | (exact rfl) | fail "no") (by first | (first | exact rfl | assumption) | fail "no") (by first | (k_is) | fail "no") (by first | (k_is) | fail "no") (by first | (k_room) | fail "no") (by first | (first | exact BindsTo.of_eq rfl | exact binds_K (by k_in) rfl (by k_is) rfl rfl rfl) | fail "no") (by first | (exact locs rfl) | fail "no") ?_ (by first | (exact rfl) | fail "no") (by first | (exact rfl) | fail "no") (by first | (exact rfl) | fail "no") (by first | (decide) | fail "no"); k_whole; intro g' L' h' FG' F' N' B' X' T'; (try dsimp only); (try k_fold)))
  (k_with "exec For Name Name cons nil" => (k_here; (rename Fr _ _ _ _ => lF'); (with_unfolding_all refine' For_invVF lF' (by first | (exact rfl) | fail "no") (by first | (exact rfl) | fail "no") ?_; k_whole)))
  (k_with "exec For Name Call cons nil" => (k_here; (rename Fr _ _ _ _ => lF'); (with_unfolding_all refine' For_invVF lF' (by first | (exact rfl) | fail "no") (by first | (exact rfl) | fail "no") ?_; k_whole)))
  (k_with "pyIter ref" => (refine Held.out ?_))
  (k_with "subscriptTail" => (k_here; (with_reducible show wpAny _ _ (subscriptTail _ _ (Value.ref _) (Value.int 0 _)) _ _ _); k_dflt (refine' item0 (by first | (exact News.isTup (by k_asm) (by k_mem)) | fail "no") ?_ (by first | (with_unfolding_all rfl) | fail "no"); k_whole)))
  (k_with "compareOp NotIn str ref" => (k_here; (with_reducible show wpAny _ _ (compareOp CmpOp.NotIn (Value.str _ _) (Value.ref _)) _ _ _); (with_unfolding_all refine' notin_tuple_strs (by first | ((refine' tupK (by first | (k_in) | fail "no") (by first | (k_dflt k_is) | fail "no"))) | fail "no") (by first | (repeat constructor) | fail "no") ?_; k_whole)))
  (k_with "ite" => (refine ite_no (by first | ((simp only [beq_eq_false_iff_ne, ne_eq]; assumption)) | fail "no") ?_))
  (k_with "TurnPost" => (dsimp only [TurnPost]))
  trivial

section
variable {w : World} {mean : ExcName → Option Value} {mg mb : Str → Option Value} {dp un : Nat} {gd : Option (List Code)} {cn : Str} {cs : Scope} {L a : Addr} {ccd : Value} {cl : List (Str × Addr)} {outer : List Env} {A₀ : Around} {base h₀ : Heap} {σ : List (Str × AV)}
theorem AFrame.ext (Φ : AFrame w mean mg mb dp un cn cs L a ccd cl outer A₀ base h₀ σ) (x : Str) (v : AV) (h : (envX cn cs L a ccd cl).kindOf x = some .local) (hd : (x == ("__debug__" : Str)) = false) : AFrame w mean mg mb dp un cn cs L a ccd cl outer A₀ base h₀ ((x, v) :: σ) :=
  ⟨Φ.B, Φ.X, Φ.T, Φ.hk, Φ.dp, Φ.un, Φ.glob, fun p hp => by
    rcases List.mem_cons.mp hp with rfl | hp
    · exact ⟨h, hd⟩
    · exact Φ.loc p hp⟩
theorem envOf_eq {name : Str} {scope : Scope} {L a : Addr} {cd : Value} : envOf name scope L a cd = envX name scope L a cd [] := rfl
theorem with_env {w : World} {dp un : Nat} {gd : Option (List Code)} {cn : Str} {cs : Scope} {L a : Addr} {ccd : Value} {cl : List (Str × Addr)} {outer : List Env} {body : List Stmt} {env : Env} {s : Shared} {Q : Flow → Shared → Prop} {E : Value → Shared → Prop}
    (h : env = envX cn cs L a ccd cl ∧ wpAny (model pg w) (ktrTop dp un gd cn cs L a ccd cl outer) (execs body (envX cn cs L a ccd cl)) Q E s) :
    wpAny (model pg w) (ktrTop dp un gd cn cs L a ccd cl outer) (execs body env) Q E s := by rw [h.1]; exact h.2
theorem with_frame {body : List Stmt} {s : Shared} {Q : Flow → Shared → Prop} {E : Value → Shared → Prop} (Φ : AFrame w mean mg mb dp un cn cs L a ccd cl outer A₀ base h₀ [])
    (h : AFrame w mean mg mb dp un cn cs L a ccd cl outer A₀ base h₀ [] → wpAny (model pg w) (ktrTop dp un gd cn cs L a ccd cl outer) (execs body (envX cn cs L a ccd cl)) Q E s) :
    wpAny (model pg w) (ktrTop dp un gd cn cs L a ccd cl outer) (execs body (envX cn cs L a ccd cl)) Q E s := h Φ
end
noncomputable abbrev aDone : AV := .tup [.str (Str.ofString "return"), .int 0, .tup []]
noncomputable abbrev aBrk (l : AV) : AV := .tup [.str (Str.ofString "break"), .int 0, l]
noncomputable abbrev aCont (l : AV) : AV := .tup [.str (Str.ofString "continue"), .int 0, l]
noncomputable abbrev aName : AV := .tup [.str (Str.ofString "name"), .int 0, .str (Str.ofString "panic")]
noncomputable abbrev aPan : AV := calA aName
noncomputable abbrev aSeems : AV := calA (.tup [.str (Str.ofString "select"), .int 0, .gx, .str (Str.ofString "panic")])
noncomputable abbrev aPlain : AV := calA .gx
noncomputable abbrev aNamed : AV := .tup [.str (Str.ofString "expr"), .int 0, aName]
noncomputable abbrev prA (b : List AV) (t : Bool) : AV := .tup [.tup b, .bool t]
noncomputable abbrev rwA (b : List AV) (t n : Bool) (l : List AV) (lv g : Bool) : AV := .tup [.tup b, .bool t, .bool n, .lst l, .bool lv, .bool g]
/-- the names --/
theorem AFrame.wth {w : World} {mean : ExcName → Option Value} {mg mb : Str → Option Value} {dp un : Nat} {cn : Str} {cs : Scope} {L a : Addr} {ccd : Value} {cl : List (Str × Addr)} {outer : List Env} {A₀ : Around} {base h₀ : Heap} (Φ : AFrame w mean mg mb dp un cn cs L a ccd cl outer A₀ base h₀ []) {σ : List (Str × AV)}
    (h : (σ.all fun p => ((envX cn cs L a ccd cl).kindOf p.1 == some .local) && !(p.1 == ("__debug__" : Str))) = true) : AFrame w mean mg mb dp un cn cs L a ccd cl outer A₀ base h₀ σ :=
  ⟨Φ.B, Φ.X, Φ.T, Φ.hk, Φ.dp, Φ.un, Φ.glob, fun p hp => by
    have := List.all_eq_true.mp h p hp
    rw [Bool.and_eq_true, Bool.not_eq_true'] at this
    exact ⟨by simpa using this.1, this.2⟩⟩
noncomputable abbrev sM : AV := .str (Str.ofString "M")
noncomputable abbrev sU : AV := .str (Str.ofString "U")
noncomputable abbrev sL : AV := .str (Str.ofString "L")
noncomputable abbrev sS : AV := .str (Str.ofString "S")
noncomputable abbrev sR : AV := .str (Str.ofString "R")
noncomputable abbrev aFalls : AV := swA .none [.tup [.tup [.gx], .tup [.tup [.str (Str.ofString "fallthrough"), .int 0]]], .tup [.none, .tup [aDone]]]
noncomputable abbrev aInner : AV := swA .none [.tup [.none, .tup [aBrk sM]]]
noncomputable abbrev aTwice : AV := forA sM .none (.tup [forA sM .none (.tup [aBrk sM])])
noncomputable abbrev aLeads : AV := swA sS [.tup [.none, .tup [aCont sS]]]
noncomputable abbrev aRounds : AV := .tup [.str (Str.ofString "range"), .int 0, sR, .tup [], .bool false, .gx, blkA (.tup [aBrk sR])]
noncomputable def sg0 : List (Str × AV) := []
noncomputable def sg1 : List (Str × AV) := (Str.ofString "goes", aCont .none) :: (Str.ofString "leaves", aBrk .none) :: (Str.ofString "done", aDone) :: sg0
noncomputable def sg2 : List (Str × AV) := (Str.ofString "panics", aPan) :: (Str.ofString "seems", aSeems) :: sg1
noncomputable def sg3 : List (Str × AV) := (Str.ofString "plain", aPlain) :: (Str.ofString "named", aNamed) :: sg2
noncomputable def sg4 : List (Str × AV) := (Str.ofString "falls", aFalls) :: sg3
noncomputable def sg5 : List (Str × AV) := (Str.ofString "inner", aInner) :: sg4
noncomputable def sg6 : List (Str × AV) := (Str.ofString "twice", aTwice) :: sg5
noncomputable def sg7 : List (Str × AV) := (Str.ofString "leads", aLeads) :: sg6
noncomputable def sg8 : List (Str × AV) := (Str.ofString "rounds", aRounds) :: sg7
noncomputable def fd1 : List AV := [prA [aDone] true, prA [aPan] true, prA [aSeems] false, prA [] false, prA [aPlain] false, prA [aNamed] false]
noncomputable def fd2x : List AV := [prA [aDone, aSeems] false, prA [forA .none .none (.tup [])] true, prA [forA .none .gx (.tup [])] false]
noncomputable def fd2 : List AV := fd1 ++ fd2x
noncomputable def fd3x : List AV := [prA [forA .none .none (.tup [aBrk .none])] false, prA [.tup [.str (Str.ofString "choose"), .int 0, .none, .tup []]] true]
noncomputable def fd3 : List AV := fd2 ++ fd3x
noncomputable def fd4 : List AV := fd3 ++ [prA [forA .none .none (.tup [swA .none [.tup [.none, .tup [aBrk .none]]]])] true]
noncomputable def fd5 : List AV := fd4 ++ [prA [swA .none [.tup [.tup [.gx], .tup [aDone]]]] false]
noncomputable def fd6x : List AV := [prA [aFalls] true]
noncomputable def fd6 : List AV := (fd5 ++ fd6x).map addRow
noncomputable def fd7x : List AV := [rwA [aBrk .none] false false [] true false, rwA [aCont .none] false false [] false true]
noncomputable def fd7 : List AV := fd6 ++ fd7x
noncomputable def fd8 : List AV := fd7 ++ [rwA [forA sM .none (.tup [aInner])] false false [sM] false false]
noncomputable def fd9 : List AV := fd8 ++ [rwA [forA sU .none (.tup [])] true true [sU] false false]
noncomputable def fd10 : List AV := fd9 ++ [rwA [aTwice] false true [sM] false false]
noncomputable def fd11 : List AV := fd10 ++ [rwA [forA sL .none (.tup [aCont sL])] true false [sL] false false]
noncomputable def fd12 : List AV := fd11 ++ [rwA [forA .none .none (.tup [aLeads])] true true [sS] false false]
noncomputable def fd13 : List AV := fd12 ++ [rwA [aRounds] false false [sR] false false]
section
variable {w : World} {mean : ExcName → Option Value} {mg mb : Str → Option Value}
set_option pp.maxSteps 300 in
set_option maxRecDepth 100000 in
set_option maxHeartbeats 8000000 in
theorem law_table_spec : Call w mean mg mb 9 205 [] [] fun r tl => ∃ l vs n, r = .ref l ∧ (l, listOf vs.toArray n) ∈ tl ∧ VsIn tl vs fd13 := by
  intro dp un gd cn cs a ccd cl outer A₀ base h₀ L m sH sG sD sT sO Q E B F X N T hk hdp hun ret
  refine wpAny_call ?_
  k_dflt ktr_enter
  rename Fr _ _ _ _ => F9
  rename News _ _ _ _ => N9
  rename Below _ _ _ _ => B9
  rename Frag.In _ _ => X9
  rename Top _ _ _ _ _ _ => T9
  refine with_env ?_
  refine ⟨envOf_eq, ?_⟩
  refine with_frame (mean := mean) (mg := mg) (mb := mb) (A₀ := ktrTop dp un gd cn cs L a ccd cl outer) (base := base) (h₀ := g') ?Φ ?k
  case Φ =>
    refine ⟨B9, X9, T9, rfl, ?_, ?_, ?_, fun _ h => (nomatch h)⟩
    · show dp + 1 + 7 < recursionLimit
      omega
    · show un + 3 + 8 * 7 < cLine
      omega
    · intro x hx
      rcases List.mem_cons.mp hx with rfl | hx
      · rfl
      rcases List.mem_cons.mp hx with rfl | hx
      · rfl
      rcases List.mem_cons.mp hx with rfl | hx
      · rfl
      rcases List.mem_cons.mp hx with rfl | hx
      · rfl
      rw [List.mem_singleton.mp hx]
      rfl
  intro Φ
  have H0 : T0s g' h' L' sg0 := ⟨_, _, F9, N9, fun _ _ h => (nomatch h)⟩
  refine AStep.seq (P := fun h => T0s g' h L' sg0) (P' := fun h => T0s g' h L' sg1) ?S0 ?i0 ?n0
  case S0 =>
    refine st_tup3 (Φ.wth (σ := sg0) (by kernel_rfl)) (n := 8) (v1 := aDone) (v2 := aBrk .none) (v3 := aCont .none) ?e0 ?a0 ?b0 ?c0 ?d0 ?f0
    case e0 => kernel_rfl
    case a0 => rfl
    case b0 => rfl
    case c0 => rfl
    case d0 => rfl
    case f0 => rfl
  case i0 => exact H0
  clear H0
  intro h1 tk1 H1
  refine AStep.seq (P := fun h => T0s g' h L' sg1) (P' := fun h => T0s g' h L' sg2) ?S1 ?i1 ?n1
  case S1 =>
    refine st_tup2 (Φ.wth (σ := sg1) (by kernel_rfl)) (n := 8) (v1 := aPan) (v2 := aSeems) ?e1 ?a1 ?b1 ?d1 ?f1
    case e1 => kernel_rfl
    case a1 => rfl
    case b1 => rfl
    case d1 => rfl
    case f1 => rfl
  case i1 => exact H1
  clear H1
  intro h2 tk2 H2
  refine AStep.seq (P := fun h => T0s g' h L' sg2) (P' := fun h => T0s g' h L' sg3) ?S2 ?i2 ?n2
  case S2 =>
    refine st_tup2 (Φ.wth (σ := sg2) (by kernel_rfl)) (n := 8) (v1 := aPlain) (v2 := aNamed) ?e2 ?a2 ?b2 ?d2 ?f2
    case e2 => kernel_rfl
    case a2 => rfl
    case b2 => rfl
    case d2 => rfl
    case f2 => rfl
  case i2 => exact H2
  clear H2
  intro h3 tk3 H3
  refine AStep.seq (P := fun h => T0s g' h L' sg3) (P' := fun h => T1s g' h L' sg3 fd1) ?S3 ?i3 ?n3
  case S3 =>
    refine st_found (Φ.wth (σ := sg3) (by kernel_rfl)) (n := 10) ?e3 ?l3 ?a3 ?b3 ?d3
    case e3 => kernel_rfl
    case l3 => decide
    case a3 => rfl
    case b3 => kernel_rfl
    case d3 => rfl
  case i3 => exact H3
  clear H3
  intro h4 tk4 H4
  refine AStep.seq (P := fun h => T1s g' h L' sg3 fd1) (P' := fun h => T1s g' h L' sg3 fd2) ?S4 ?i4 ?n4
  case S4 =>
    refine st_add (Φ.wth (σ := sg3) (by kernel_rfl)) (n := 12) (bs := fd2x) ?e4 ?l4 ?z4 ?a4 ?b4 ?d4
    case e4 => kernel_rfl
    case l4 => decide
    case z4 => decide +kernel
    case a4 => rfl
    case b4 => kernel_rfl
    case d4 => rfl
  case i4 => exact H4
  clear H4
  intro h5 tk5 H5
  refine AStep.seq (P := fun h => T1s g' h L' sg3 fd2) (P' := fun h => T1s g' h L' sg3 fd3) ?S5 ?i5 ?n5
  case S5 =>
    refine st_add (Φ.wth (σ := sg3) (by kernel_rfl)) (n := 12) (bs := fd3x) ?e5 ?l5 ?z5 ?a5 ?b5 ?d5
    case e5 => kernel_rfl
    case l5 => decide
    case z5 => decide +kernel
    case a5 => rfl
    case b5 => kernel_rfl
    case d5 => rfl
  case i5 => exact H5
  clear H5
  intro h6 tk6 H6
  refine AStep.seq (P := fun h => T1s g' h L' sg3 fd3) (P' := fun h => T1s g' h L' sg3 fd4) ?S6 ?i6 ?n6
  case S6 =>
    refine st_append (Φ.wth (σ := sg3) (by kernel_rfl)) (n := 12) (v := prA [forA .none .none (.tup [swA .none [.tup [.none, .tup [aBrk .none]]]])] true) (pl := ?pl6) ?e6 ?z6 ?a6 ?m6 ?b6 ?d6
    case e6 => kernel_rfl
    case z6 => decide +kernel
    case a6 => rfl
    case m6 => exact rfl
    case b6 => rfl
    case d6 => rfl
  case i6 => exact H6
  clear H6
  intro h7 tk7 H7
  refine AStep.seq (P := fun h => T1s g' h L' sg3 fd4) (P' := fun h => T1s g' h L' sg3 fd5) ?S7 ?i7 ?n7
  case S7 =>
    refine st_append (Φ.wth (σ := sg3) (by kernel_rfl)) (n := 12) (v := prA [swA .none [.tup [.tup [.gx], .tup [aDone]]]] false) (pl := ?pl7) ?e7 ?z7 ?a7 ?m7 ?b7 ?d7
    case e7 => kernel_rfl
    case z7 => decide +kernel
    case a7 => rfl
    case m7 => exact rfl
    case b7 => rfl
    case d7 => rfl
  case i7 => exact H7
  clear H7
  intro h8 tk8 H8
  refine AStep.seq (P := fun h => T1s g' h L' sg3 fd5) (P' := fun h => T1s g' h L' sg4 fd5) ?S8 ?i8 ?n8
  case S8 =>
    refine st_name (Φ.wth (σ := sg3) (by kernel_rfl)) (n := 12) (v := aFalls) ?e8 ?a8 ?b8 ?d8
    case e8 => kernel_rfl
    case a8 => rfl
    case b8 => decide
    case d8 => rfl
  case i8 => exact H8
  clear H8
  intro h' tk9 H9
  refine AStep.seq (P := fun h => T1s g' h L' sg4 fd5) (P' := fun h => T1s g' h L' sg4 fd6) ?S9 ?i9 ?n9
  case S9 =>
    refine st_comp (Φ.wth (σ := sg4) (by kernel_rfl)) (n := 12) (bs := fd6x) ?e9 ?l9 ?z9 ?r9 ?a9 ?b9 ?c9 ?f9 ?g' ?j9 ?k9 ?o9 ?d9
    case e9 => kernel_rfl
    case l9 => decide
    case z9 => decide +kernel
    case r9 => kernel_rfl
    case a9 => rfl
    case b9 => kernel_rfl
    case c9 => exact rfl
    case f9 => decide
    case g' => rfl
    case j9 => decide
    case k9 => rfl
    case o9 => decide
    case d9 => rfl
  case i9 => exact H9
  clear H9
  intro h10 tk10 H10
  refine AStep.seq (P := fun h => T1s g' h L' sg4 fd6) (P' := fun h => T1s g' h L' sg4 fd7) ?S10 ?i10 ?n10
  case S10 =>
    refine st_add (Φ.wth (σ := sg4) (by kernel_rfl)) (n := 12) (bs := fd7x) ?e10 ?l10 ?z10 ?a10 ?b10 ?d10
    case e10 => kernel_rfl
    case l10 => decide
    case z10 => decide +kernel
    case a10 => rfl
    case b10 => kernel_rfl
    case d10 => rfl
  case i10 => exact H10
  clear H10
  intro h11 tk11 H11
  refine AStep.seq (P := fun h => T1s g' h L' sg4 fd7) (P' := fun h => T1s g' h L' sg5 fd7) ?S11 ?i11 ?n11
  case S11 =>
    refine st_name (Φ.wth (σ := sg4) (by kernel_rfl)) (n := 12) (v := aInner) ?e11 ?a11 ?b11 ?d11
    case e11 => kernel_rfl
    case a11 => rfl
    case b11 => decide
    case d11 => rfl
  case i11 => exact H11
  clear H11
  intro h12 tk12 H12
  refine AStep.seq (P := fun h => T1s g' h L' sg5 fd7) (P' := fun h => T1s g' h L' sg5 fd8) ?S12 ?i12 ?n12
  case S12 =>
    refine st_append (Φ.wth (σ := sg5) (by kernel_rfl)) (n := 12) (v := rwA [forA sM .none (.tup [aInner])] false false [sM] false false) (pl := ?pl12) ?e12 ?z12 ?a12 ?m12 ?b12 ?d12
    case e12 => kernel_rfl
    case z12 => decide +kernel
    case a12 => rfl
    case m12 => exact rfl
    case b12 => rfl
    case d12 => rfl
  case i12 => exact H12
  clear H12
  intro h13 tk13 H13
  refine AStep.seq (P := fun h => T1s g' h L' sg5 fd8) (P' := fun h => T1s g' h L' sg5 fd9) ?S13 ?i13 ?n13
  case S13 =>
    refine st_append (Φ.wth (σ := sg5) (by kernel_rfl)) (n := 12) (v := rwA [forA sU .none (.tup [])] true true [sU] false false) (pl := ?pl13) ?e13 ?z13 ?a13 ?m13 ?b13 ?d13
    case e13 => kernel_rfl
    case z13 => decide +kernel
    case a13 => rfl
    case m13 => exact rfl
    case b13 => rfl
    case d13 => rfl
  case i13 => exact H13
  clear H13
  intro h14 tk14 H14
  refine AStep.seq (P := fun h => T1s g' h L' sg5 fd9) (P' := fun h => T1s g' h L' sg6 fd9) ?S14 ?i14 ?n14
  case S14 =>
    refine st_name (Φ.wth (σ := sg5) (by kernel_rfl)) (n := 12) (v := aTwice) ?e14 ?a14 ?b14 ?d14
    case e14 => kernel_rfl
    case a14 => rfl
    case b14 => decide
    case d14 => rfl
  case i14 => exact H14
  clear H14
  intro h15 tk15 H15
  refine AStep.seq (P := fun h => T1s g' h L' sg6 fd9) (P' := fun h => T1s g' h L' sg6 fd10) ?S15 ?i15 ?n15
  case S15 =>
    refine st_append (Φ.wth (σ := sg6) (by kernel_rfl)) (n := 12) (v := rwA [aTwice] false true [sM] false false) (pl := ?pl15) ?e15 ?z15 ?a15 ?m15 ?b15 ?d15
    case e15 => kernel_rfl
    case z15 => decide +kernel
    case a15 => rfl
    case m15 => exact rfl
    case b15 => rfl
    case d15 => rfl
  case i15 => exact H15
  clear H15
  intro h16 tk16 H16
  refine AStep.seq (P := fun h => T1s g' h L' sg6 fd10) (P' := fun h => T1s g' h L' sg6 fd11) ?S16 ?i16 ?n16
  case S16 =>
    refine st_append (Φ.wth (σ := sg6) (by kernel_rfl)) (n := 12) (v := rwA [forA sL .none (.tup [aCont sL])] true false [sL] false false) (pl := ?pl16) ?e16 ?z16 ?a16 ?m16 ?b16 ?d16
    case e16 => kernel_rfl
    case z16 => decide +kernel
    case a16 => rfl
    case m16 => exact rfl
    case b16 => rfl
    case d16 => rfl
  case i16 => exact H16
  clear H16
  intro h17 tk17 H17
  refine AStep.seq (P := fun h => T1s g' h L' sg6 fd11) (P' := fun h => T1s g' h L' sg7 fd11) ?S17 ?i17 ?n17
  case S17 =>
    refine st_name (Φ.wth (σ := sg6) (by kernel_rfl)) (n := 12) (v := aLeads) ?e17 ?a17 ?b17 ?d17
    case e17 => kernel_rfl
    case a17 => rfl
    case b17 => decide
    case d17 => rfl
  case i17 => exact H17
  clear H17
  intro h18 tk18 H18
  refine AStep.seq (P := fun h => T1s g' h L' sg7 fd11) (P' := fun h => T1s g' h L' sg7 fd12) ?S18 ?i18 ?n18
  case S18 =>
    refine st_append (Φ.wth (σ := sg7) (by kernel_rfl)) (n := 12) (v := rwA [forA .none .none (.tup [aLeads])] true true [sS] false false) (pl := ?pl18) ?e18 ?z18 ?a18 ?m18 ?b18 ?d18
    case e18 => kernel_rfl
    case z18 => decide +kernel
    case a18 => rfl
    case m18 => exact rfl
    case b18 => rfl
    case d18 => rfl
  case i18 => exact H18
  clear H18
  intro h19 tk19 H19
  refine AStep.seq (P := fun h => T1s g' h L' sg7 fd12) (P' := fun h => T1s g' h L' sg8 fd12) ?S19 ?i19 ?n19
  case S19 =>
    refine st_name (Φ.wth (σ := sg7) (by kernel_rfl)) (n := 12) (v := aRounds) ?e19 ?a19 ?b19 ?d19
    case e19 => kernel_rfl
    case a19 => rfl
    case b19 => decide
    case d19 => rfl
  case i19 => exact H19
  clear H19
  intro h20 tk20 H20
  refine AStep.seq (P := fun h => T1s g' h L' sg8 fd12) (P' := fun h => T1s g' h L' sg8 fd13) ?S20 ?i20 ?n20
  case S20 =>
    refine st_append (Φ.wth (σ := sg8) (by kernel_rfl)) (n := 12) (v := rwA [aRounds] false false [sR] false false) (pl := ?pl20) ?e20 ?z20 ?a20 ?m20 ?b20 ?d20
    case e20 => kernel_rfl
    case z20 => decide +kernel
    case a20 => rfl
    case m20 => exact rfl
    case b20 => rfl
    case d20 => rfl
  case i20 => exact H20
  clear H20
  intro h21 tk21 H21
  obtain ⟨m9, fa, vs9, n9, rest9, F9, N9, V9, hm9, R9, hap9⟩ := H21
  refine wpAny_execs_cons (wpAny_Return_some ?_)
  refine nameX_L F9 hm9 ?_ rfl rfl (by decide)
  try k_fold
  k_steps
  exact ret _ ((fa, listOf vs9.toArray n9) :: rest9) _ _ (by assumption) (by rw [List.append_nil]; assumption) (fun _ _ _ h => (nomatch h)) ⟨fa, vs9, n9, rfl, .head _, R9.mono fun p hp => .tail _ hp⟩
end
end
section
set_option tactic.hygienic false
theorem ln89 : True := by
  k_with_none
  (k_with "room" => first | exact roomE (by assumption) | exact roomD (by assumption) (by first | decide | omega) | ((try simp only [depth_mark, depth_under_make, depth_under_kw, depth_in1, depth_deeper, depth_caller]); (try dsimp only [ktrTop]); omega))
  (k_with "mem" => first | exact List.mem_cons_self | (refine List.mem_cons_of_mem _ ?_; first | ktr_member | k_mem))
  (k_with "enter" => (refine' code_def (by first | (k_asm) | fail "no") (by first | (k_asm) | fail "no") (by first | (k_asm) | fail "no") (by first | (k_asm) | fail "no") (by first | (k_asm) | fail "no") (by first | (exact rfl) | fail "no") (by first | (exact rfl) | fail "no") (by first | (first | exact rfl | assumption) | fail "no") (by first | (k_is) | fail "no") (by first | (k_is) | fail "no") (by first | (k_room) | fail "no") (by first | (first | exact BindsTo.of_eq rfl | exact binds_K (by k_in) rfl (by k_is) rfl rfl rfl) | fail "no") (by first | (exact locs rfl) | fail "no") ?_ (by first | (exact rfl) | fail "no") (by first | (exact rfl) | fail "no") (by first | (exact rfl) | fail "no") (by first | (decide) | fail "no"); k_whole; intro g' L' h' FG' F' N' B' X' T'; (try dsimp only); (try k_fold); (try (refine (let en9 := _; let ar9 := Around.deeper _ en9; (?_ : wpAny _ ar9 (execs _ en9) _ _ _))))))
  (k_with "exec For Name Name cons nil" => (k_here; (rename Fr _ _ _ _ => lF'); (with_unfolding_all refine' For_invVF lF' (by first | (exact rfl) | fail "no") (by first | (exact rfl) | fail "no") ?_; k_whole)))
  (k_with "exec For Name Call cons nil" => (k_here; (rename Fr _ _ _ _ => lF'); (with_unfolding_all refine' For_invVF lF' (by first | (exact rfl) | fail "no") (by first | (exact rfl) | fail "no") ?_; k_whole)))
  (k_with "pyIter ref" => (refine Held.out ?_))
  (k_with "subscriptTail" => (k_here; (with_reducible show wpAny _ _ (subscriptTail _ _ (Value.ref _) (Value.int 0 _)) _ _ _); k_dflt (refine' item0 (by first | (exact News.isTup (by k_asm) (by k_mem)) | fail "no") ?_ (by first | (with_unfolding_all rfl) | fail "no"); k_whole)))
  (k_with "compareOp NotIn str ref" => (k_here; (with_reducible show wpAny _ _ (compareOp CmpOp.NotIn (Value.str _ _) (Value.ref _)) _ _ _); (with_unfolding_all refine' notin_tuple_strs (by first | ((refine' tupK (by first | (k_in) | fail "no") (by first | (k_dflt k_is) | fail "no"))) | fail "no") (by first | (repeat constructor) | fail "no") ?_; k_whole)))
  (k_with "ite" => (refine ite_no (by first | ((simp only [beq_eq_false_iff_ne, ne_eq]; assumption)) | fail "no") ?_))
  (k_with "TurnPost" => (dsimp only [TurnPost]))
  trivial

/-! ## the table's rows, as statements -/
noncomputable def labA : Option Str → AV
  | none => .none
  | some x => .str x
mutual
noncomputable def encS : St → AV
  | .ret => .tup [.str "return", .int 0, .tup []]
  | .fall => .tup [.str "fallthrough", .int 0]
  | .ex .nm => .tup [.str "expr", .int 0, .tup [.str "name", .int 0, .str "panic"]]
  | .ex .sel => calA (.tup [.str "select", .int 0, .gx, .str "panic"])
  | .ex (.cn x) => calA (.tup [.str "name", .int 0, .str x])
  | .ex .gx => calA .gx
  | .brk l => .tup [.str "break", .int 0, labA l]
  | .cont l => .tup [.str "continue", .int 0, labA l]
  | .for_ l c b => forA (labA l) (if c then .none else .gx) (.tup (encB b))
  | .rng l b => .tup [.str "range", .int 0, labA l, .tup [], .bool false, .gx, blkA (.tup (encB b))]
  | .sw l cs => swA (labA l) (encC cs)
  | .cho l cs => .tup [.str "choose", .int 0, labA l, .tup (encC cs)]
  | .blk _ => .none
  | .if1 _ => .none
  | .if2 _ _ => .none
noncomputable def encB : Sts → List AV
  | .nil => []
  | .cons s r => encS s :: encB r
noncomputable def encC : Cs → List AV
  | .nil => []
  | .cons d b r => .tup [if d then .none else .tup [.gx], .tup (encB b)] :: encC r
end
noncomputable def labI : Option Str → Bool
  | none => true
  | some x => decide (x.length ≤ 40)
mutual
noncomputable def okS : St → Bool
  | .ret | .fall | .ex _ => true
  | .brk l | .cont l => labI l
  | .for_ l _ b => labI l && okB b
  | .rng l b => labI l && okB b
  | .sw l cs => labI l && (decide ((encC cs).length ≤ 8) && okC cs)
  | .cho l cs => labI l && (decide ((encC cs).length ≤ 8) && okC cs)
  | .blk _ | .if1 _ | .if2 _ _ => false
noncomputable def okB : Sts → Bool
  | .nil => true
  | .cons s r => okS s && okB r
noncomputable def okC : Cs → Bool
  | .nil => true
  | .cons _ b r => okB b && okC r
end
section
variable {news : List (Addr × Obj)}
theorem VsIn.unc {vs : List Value} {a : AV} {as : List AV} (h : VsIn news vs (a :: as)) : ∃ v us, vs = v :: us ∧ VIn news v a ∧ VsIn news us as := by
  cases h with | cons h1 h2 => exact ⟨_, _, rfl, h1, h2⟩
theorem VsIn.unn {vs : List Value} (h : VsIn news vs []) : vs = [] := by cases h; rfl
theorem VIn.strI {v : Value} {x : Str} (h : VIn news v (.str x)) : ∃ t, v = .str x t := by cases h; exact ⟨_, rfl⟩
theorem VIn.intI {v : Value} {i : Int} (h : VIn news v (.int i)) : ∃ t, v = .int i t := by cases h; exact ⟨_, rfl⟩
theorem VIn.noneI {v : Value} (h : VIn news v .none) : v = .none := by cases h; rfl
theorem VIn.boolI {v : Value} {b : Bool} (h : VIn news v (.bool b)) : v = .bool b := by cases h; rfl
theorem VIn.gxI {v : Value} (h : VIn news v .gx) : v = .ref 171 := by cases h; rfl
theorem lab_in {v : Value} {l : Option Str} (h : VIn news v (labA l)) (e : labI l = true) : LabIn v l := by
  cases l with
  | none => rw [h.noneI]; exact .none
  | some x =>
    obtain ⟨t, rfl⟩ := h.strI
    exact .some (of_decide_eq_true e)
theorem test_in {v : Value} {c : Bool} {a : AV} (h : VIn news v (if c then .none else .tup [a])) : TestIn v c := by
  cases c with
  | true => rw [h.noneI]; exact .none
  | false =>
    obtain ⟨t, _, _, rfl, _, _⟩ := h.tupI
    exact .some
theorem test_in2 {v : Value} {c : Bool} (h : VIn news v (if c then .none else .gx)) : TestIn v c := by
  cases c with
  | true => rw [h.noneI]; exact .none
  | false => rw [h.gxI]; exact .some
/-- a head with its first two parts -/
theorem head2 {v : Value} {x : Str} {i : Int} {as : List AV} (h : VIn news v (.tup (.str x :: .int i :: as))) : ∃ a t u vs n, v = .ref a ∧ (a, tupO (.str x t :: .int i u :: vs) n) ∈ news ∧ VsIn news vs as := by
  obtain ⟨a, vs, n, rfl, hm, hv⟩ := h.tupI
  obtain ⟨v1, us, rfl, h1, hv1⟩ := hv.unc
  obtain ⟨v2, ws, rfl, h2, hv2⟩ := hv1.unc
  obtain ⟨t, rfl⟩ := h1.strI
  obtain ⟨u, rfl⟩ := h2.intI
  exact ⟨a, t, u, ws, n, rfl, hm, hv2⟩
theorem cal_in {v : Value} {c : AV} (h : VIn news v (calA c)) : ∃ a t u b n t' u' cv y v4 n', v = .ref a ∧ (a, tupO [.str "expr" t, .int 0 u, .ref b] n) ∈ news ∧ (b, tupO [.str "call" t', .int 0 u', cv, y, v4] n') ∈ news ∧ VIn news cv c := by
  obtain ⟨a, t, u, vs, n, rfl, hm, hv⟩ := head2 h
  obtain ⟨v1, rfl, h1⟩ := hv.one
  obtain ⟨b, t', u', vs', n', rfl, hm', hv'⟩ := head2 h1
  obtain ⟨c1, c2, c3, rfl, k1, _, _⟩ := hv'.three
  exact ⟨_, _, _, _, _, _, _, _, _, _, _, rfl, hm, hm', k1⟩
mutual
theorem encS_in : ∀ (s : St) (v : Value), okS s = true → VIn news v (encS s) → StIn news v s
  | .ret, v, _, h => by
    unfold encS at h
    obtain ⟨a, t, u, vs, n, rfl, hm, hv⟩ := head2 h
    obtain ⟨v1, rfl, _⟩ := hv.one
    exact .ret hm
  | .fall, v, _, h => by
    unfold encS at h
    obtain ⟨a, t, u, vs, n, rfl, hm, hv⟩ := head2 h
    rw [hv.unn] at hm
    exact .fall hm
  | .ex .nm, v, _, h => by
    unfold encS at h
    obtain ⟨a, t, u, vs, n, rfl, hm, hv⟩ := head2 h
    obtain ⟨v1, rfl, h1⟩ := hv.one
    obtain ⟨b, t', u', vs', n', rfl, hm', hv'⟩ := head2 h1
    obtain ⟨v2, rfl, _⟩ := hv'.one
    exact .ex hm (.nm hm')
  | .ex .sel, v, _, h => by
    unfold encS at h
    obtain ⟨a, t, u, b, n, t', u', cv, y, v4, n', rfl, hm, hm', hc⟩ := cal_in h
    obtain ⟨c, t2, u2, vs2, n2, rfl, hm2, hv2⟩ := head2 hc
    obtain ⟨v1, v2, rfl, _, _⟩ := hv2.two
    exact .ex hm (.sel hm' hm2)
  | .ex (.cn x), v, _, h => by
    unfold encS at h
    obtain ⟨a, t, u, b, n, t', u', cv, y, v4, n', rfl, hm, hm', hc⟩ := cal_in h
    obtain ⟨c, t2, u2, vs2, n2, rfl, hm2, hv2⟩ := head2 hc
    obtain ⟨v1, rfl, h1⟩ := hv2.one
    obtain ⟨t3, rfl⟩ := h1.strI
    exact .ex hm (.cn hm' hm2)
  | .ex .gx, v, _, h => by
    unfold encS at h
    obtain ⟨a, t, u, b, n, t', u', cv, y, v4, n', rfl, hm, hm', hc⟩ := cal_in h
    rw [hc.gxI] at hm'
    exact .ex hm (.gx hm')
  | .brk l, v, e, h => by
    unfold encS at h
    obtain ⟨a, t, u, vs, n, rfl, hm, hv⟩ := head2 h
    obtain ⟨v1, rfl, h1⟩ := hv.one
    exact .brk hm (lab_in h1 e)
  | .cont l, v, e, h => by
    unfold encS at h
    obtain ⟨a, t, u, vs, n, rfl, hm, hv⟩ := head2 h
    obtain ⟨v1, rfl, h1⟩ := hv.one
    exact .cont hm (lab_in h1 e)
  | .for_ l c b, v, e, h => by
    unfold encS at h
    unfold okS at e
    rw [Bool.and_eq_true] at e
    obtain ⟨a, t, u, vs, n, rfl, hm, hv⟩ := head2 h
    obtain ⟨v1, us, rfl, h1, hv⟩ := hv.unc
    obtain ⟨v2, us, rfl, h2, hv⟩ := hv.unc
    obtain ⟨v3, v4, v5, rfl, h3, h4, h5⟩ := hv.three
    obtain ⟨k, t', u', vs', n', rfl, hm', hv'⟩ := head2 h5
    obtain ⟨w1, rfl, g1⟩ := hv'.one
    obtain ⟨k', bs, n2, rfl, hm2, hb⟩ := g1.tupI
    exact .for_ hm (lab_in h1 e.1) (test_in2 h3) (.mk hm' hm2 (encB_in b bs e.2 hb))
  | .rng l b, v, e, h => by
    unfold encS at h
    unfold okS at e
    rw [Bool.and_eq_true] at e
    obtain ⟨a, t, u, vs, n, rfl, hm, hv⟩ := head2 h
    obtain ⟨v1, us, rfl, h1, hv⟩ := hv.unc
    obtain ⟨v2, us, rfl, h2, hv⟩ := hv.unc
    obtain ⟨v3, v4, v5, rfl, h3, h4, h5⟩ := hv.three
    obtain ⟨k, t', u', vs', n', rfl, hm', hv'⟩ := head2 h5
    obtain ⟨w1, rfl, g1⟩ := hv'.one
    obtain ⟨k', bs, n2, rfl, hm2, hb⟩ := g1.tupI
    exact .rng hm (lab_in h1 e.1) (.mk hm' hm2 (encB_in b bs e.2 hb))
  | .sw l cs, v, e, h => by
    unfold encS at h
    unfold okS at e
    rw [Bool.and_eq_true, Bool.and_eq_true] at e
    obtain ⟨a, t, u, vs, n, rfl, hm, hv⟩ := head2 h
    obtain ⟨v1, us, rfl, h1, hv⟩ := hv.unc
    obtain ⟨v3, v4, v5, rfl, h3, h4, h5⟩ := hv.three
    obtain ⟨k', bs, n2, rfl, hm2, hb⟩ := h5.tupI
    exact .sw hm (lab_in h1 e.1) hm2 (by rw [hb.length]; exact of_decide_eq_true e.2.1) (encC_in cs bs e.2.2 hb)
  | .cho l cs, v, e, h => by
    unfold encS at h
    unfold okS at e
    rw [Bool.and_eq_true, Bool.and_eq_true] at e
    obtain ⟨a, t, u, vs, n, rfl, hm, hv⟩ := head2 h
    obtain ⟨v1, v2, rfl, h1, h2⟩ := hv.two
    obtain ⟨k', bs, n2, rfl, hm2, hb⟩ := h2.tupI
    exact .cho hm (lab_in h1 e.1) hm2 (by rw [hb.length]; exact of_decide_eq_true e.2.1) (encC_in cs bs e.2.2 hb)
  | .blk _, _, e, _ => nomatch e
  | .if1 _, _, e, _ => nomatch e
  | .if2 _ _, _, e, _ => nomatch e
theorem encB_in : ∀ (b : Sts) (vs : List Value), okB b = true → VsIn news vs (encB b) → StsIn news vs b
  | .nil, vs, _, h => by
    unfold encB at h
    rw [h.unn]; exact .nil
  | .cons s r, vs, e, h => by
    unfold encB at h
    unfold okB at e
    rw [Bool.and_eq_true] at e
    obtain ⟨v, us, rfl, h1, h2⟩ := h.unc
    exact .cons (encS_in s v e.1 h1) (encB_in r us e.2 h2)
theorem encC_in : ∀ (c : Cs) (vs : List Value), okC c = true → VsIn news vs (encC c) → CsIn news vs c
  | .nil, vs, _, h => by
    unfold encC at h
    rw [h.unn]; exact .nil
  | .cons d b r, vs, e, h => by
    unfold encC at h
    unfold okC at e
    rw [Bool.and_eq_true] at e
    obtain ⟨v, us, rfl, h1, h2⟩ := h.unc
    obtain ⟨a, ws, n, rfl, hm, hv⟩ := h1.tupI
    obtain ⟨w1, w2, rfl, g1, g2⟩ := hv.two
    obtain ⟨k', bs, n2, rfl, hm2, hb⟩ := g2.tupI
    exact .cons hm (test_in g1) hm2 (encB_in b bs e.1 hb) (encC_in r us e.2 h2)
end
noncomputable def encR (r : Row) : AV := .tup [.tup (encB r.body), .bool r.term, .bool r.never, .lst (r.labels.map .str), .bool r.leaves, .bool r.goes]
noncomputable def okR (r : Row) : Bool := okB r.body && r.labels.all fun x => decide (x.length ≤ 40)
theorem labs_in : ∀ (xs : List Str) (vs : List Value), (xs.all fun x => decide (x.length ≤ 40)) = true → VsIn news vs (xs.map .str) → LabsIn vs xs
  | [], vs, _, h => by rw [VsIn.unn h]; exact .nil
  | x :: xs, vs, e, h => by
    rw [List.all_cons, Bool.and_eq_true] at e
    obtain ⟨v, us, rfl, h1, h2⟩ := VsIn.unc h
    obtain ⟨t, rfl⟩ := h1.strI
    exact .cons (of_decide_eq_true e.1) (labs_in xs us e.2 h2)
theorem encR_in {v : Value} {r : Row} (e : okR r = true) (h : VIn news v (encR r)) : RowIn news v r := by
  unfold okR at e
  rw [Bool.and_eq_true] at e
  obtain ⟨a, vs, n, rfl, hm, hv⟩ := h.tupI
  obtain ⟨v1, us, rfl, h1, hv⟩ := hv.unc
  obtain ⟨v2, us, rfl, h2, hv⟩ := hv.unc
  obtain ⟨v3, us, rfl, h3, hv⟩ := hv.unc
  obtain ⟨v4, v5, v6, rfl, h4, h5, h6⟩ := hv.three
  obtain ⟨k, bs, n1, rfl, k1, k2⟩ := h1.tupI
  obtain ⟨ll, ls, n2, rfl, l1, l2⟩ := h4.lstI
  rw [h2.boolI, h3.boolI, h5.boolI, h6.boolI] at hm
  exact .mk hm k1 (encB_in _ _ e.1 k2) l1 (labs_in _ _ e.2 l2)
theorem encRs_in : ∀ (rs : List Row) (vs : List Value), (rs.all okR) = true → VsIn news vs (rs.map encR) → RowsIn news vs rs
  | [], vs, _, h => by rw [VsIn.unn h]; exact .nil
  | r :: rs, vs, e, h => by
    rw [List.all_cons, Bool.and_eq_true] at e
    obtain ⟨v, us, rfl, h1, h2⟩ := VsIn.unc h
    exact .cons (encR_in e.1 h1) (encRs_in rs us e.2 h2)
theorem table_rows {vs : List Value} (h : VsIn news vs fd13) : RowsIn news vs tab := encRs_in tab vs (by decide +kernel) (by rw [show tab.map encR = fd13 from rfl]; exact h)
end
end
section
set_option tactic.hygienic false
theorem ln90 : True := by
  k_with_none
  (k_with "room" => first | exact roomE (by assumption) | exact roomD (by assumption) (by first | decide | omega) | ((try simp only [depth_mark, depth_under_make, depth_under_kw, depth_in1, depth_deeper, depth_caller]); (try dsimp only [ktrTop]); omega))
  (k_with "mem" => first | exact List.mem_cons_self | (refine List.mem_cons_of_mem _ ?_; first | ktr_member | k_mem))
  (k_with "enter" => (refine' code_def (by first | (k_asm) | fail "no") (by first | (k_asm) | fail "no") (by first | (k_asm) | fail "no") (by first | (k_asm) | fail "no") (by first | (k_asm) | fail "no") (by first | (exact rfl) | fail "no") (by first | (exact rfl) | fail "no") (by first | (first | exact rfl | assumption) | fail "no") (by first | (k_is) | fail "no") (by first | (k_is) | fail "no") (by first | (k_room) | fail "no") (by first | (first | exact BindsTo.of_eq rfl | exact binds_K (by k_in) rfl (by k_is) rfl rfl rfl) | fail "no") (by first | (exact locs rfl) | fail "no") ?_ (by first | (exact rfl) | fail "no") (by first | (exact rfl) | fail "no") (by first | (exact rfl) | fail "no") (by first | (decide) | fail "no"); k_whole; intro g' L' h' FG' F' N' B' X' T'; (try dsimp only); (try k_fold); (try (refine (let en9 := _; let ar9 := Around.deeper _ en9; (?_ : wpAny _ ar9 (execs _ en9) _ _ _))))))
  (k_with "exec For Name Name cons nil" => (k_here; (rename Fr _ _ _ _ => lF'); (with_unfolding_all refine' For_invVF lF' (by first | (exact rfl) | fail "no") (by first | (exact rfl) | fail "no") ?_; k_whole)))
  (k_with "exec For Name Call cons nil" => (k_here; (rename Fr _ _ _ _ => lF'); (with_unfolding_all refine' For_invVF lF' (by first | (exact rfl) | fail "no") (by first | (exact rfl) | fail "no") ?_; k_whole)))
  (k_with "pyIter ref" => (refine Held.out ?_))
  (k_with "subscriptTail" => (k_here; (with_reducible show wpAny _ _ (subscriptTail _ _ (Value.ref _) (Value.int 0 _)) _ _ _); k_dflt (refine' item0 (by first | (exact News.isTup (by k_asm) (by k_mem)) | fail "no") ?_ (by first | (with_unfolding_all rfl) | fail "no"); k_whole)))
  (k_with "compareOp NotIn str ref" => (k_here; (with_reducible show wpAny _ _ (compareOp CmpOp.NotIn (Value.str _ _) (Value.ref _)) _ _ _); (with_unfolding_all refine' notin_tuple_strs (by first | ((refine' tupK (by first | (k_in) | fail "no") (by first | (k_dflt k_is) | fail "no"))) | fail "no") (by first | (repeat constructor) | fail "no") ?_; k_whole)))
  (k_with "ite" => (refine ite_no (by first | ((simp only [beq_eq_false_iff_ne, ne_eq]; assumption)) | fail "no") ?_))
  (k_with "TurnPost" => (dsimp only [TurnPost]))
  trivial

/-! ## a loop over a range -/
section
variable {prog : Program} {w : World} {A : Around} {E : Value → Shared → Prop} {s : Shared} {env : Env} {h₀ : Heap} {x : Str} {body : List Stmt} {Q : Flow → Shared → Prop}
theorem iter_genR {I : Addr} {n : Nat} {m₀ : Str → Option Value} {news : List (Addr × Obj)} {P : Nat → Value → Prop} {St : Nat → Heap → Prop} (stored : List Str) (J : Nat → List (Addr × Obj) → Prop)
    (W : Walks prog w A I [I] [I] n P St) (hI : h₀.get? I = none) (hIL : I ≠ env.locals) (hSI : ∀ i h, St i h → ∃ o, h.get? I = some o)
    (hnw : ∀ p ∈ news, p.1 ≠ I) (hst : St 0 s.heap) (F : Fr h₀ env.locals s.heap m₀) (N : News h₀ env.locals s.heap news) (hj : J 0 news)
    (turn : ∀ i v u nx h tk own, i < n → P i v → J i nx → OwnOff own (nx.map (·.1)) → Fr h₀ env.locals h (fun y => if y = x then some v else lost stored u m₀ y) → News h₀ env.locals h (own ++ nx) →
      wpAny (model prog w) A (execs body env) (TurnPost h₀ env.locals stored m₀ (J (i + 1)) own { s with heap := h, toks := tk } Q) E { s with heap := h, toks := tk })
    (done : ∀ u nx h tk, J n nx → Fr h₀ env.locals h (lost stored u m₀) → News h₀ env.locals h nx → Q .next { s with heap := h, toks := tk }) :
    LoopAtV prog w A h₀ env x body Q E (.ref I) s := by
  refine ⟨I, [I], [I], n, P, St, m₀, news, fun i m nx => (∀ z, stored.contains z = false → m z = m₀ z) ∧ J i nx, rfl, W, ?_, ?_, ?_, hst, F, N, ⟨fun _ _ => rfl, hj⟩, ?_, ?_⟩
  · intro hm
    exact hIL (List.mem_singleton.mp hm).symm
  · intro b hb; rw [List.mem_singleton.mp hb]; exact hI
  · intro p hp hq; exact hnw p hp (List.mem_singleton.mp hq)
  · rintro i v m₁ nx s₁ own ⟨h, tk, rfl⟩ hi hPv ⟨hm, hJ⟩ hoff hown hget hfp hst₁ F₁ N₁
    obtain ⟨oI, hoI⟩ := hSI _ _ hst₁
    have hIown : (I, oI) ∈ own := hfp I (.head _) hI oI hoI
    have hsep : OwnOff own (nx.map (·.1)) := by
      intro p hp b hb e
      obtain ⟨q, hq, rfl⟩ := List.mem_map.mp hb
      exact hoff q hq (List.mem_singleton.mpr (e ▸ List.mem_singleton.mp (hown p hp)))
    rw [lost_eq hm] at F₁
    refine wpAny_mono (turn i v m₁ nx h tk _ hi hPv hJ hsep F₁ N₁) (fun f s₂ p => ?_) fun _ _ e => e
    have fin : TurnEnd h₀ env.locals stored m₀ (J (i + 1)) own { s with heap := h, toks := tk } s₂ →
        LoopStepU h₀ env.locals [I] own (fun m nx => (∀ z, stored.contains z = false → m z = m₀ z) ∧ J (i + 1) nx) { s with heap := h, toks := tk } .next s₂ := by
      rintro ⟨h', tk', m', nx', e, F', N', ho, hm', hJ'⟩
      exact ⟨rfl, h', tk', m', nx', e, F', N', fun p hp hq => ho _ hIown p.1 (List.mem_map.mpr ⟨p, hp, rfl⟩) (List.mem_singleton.mp hq).symm, hm', hJ'⟩
    cases f with
    | ret v => exact .ret p
    | brk => exact .brk p
    | next => exact .next (fin p)
    | cont => exact .cont (fin p)
  · rintro h' tk m' nx' F' N' _ ⟨hm, hJ⟩
    rw [lost_eq hm] at F'
    exact done m' nx' h' tk hJ F' N'
theorem iter_range {r : Addr} {b : Int} {t u v : Tok} {n : Nat} {m₀ : Str → Option Value} {news : List (Addr × Obj)} (stored : List Str) (J : Nat → List (Addr × Obj) → Prop)
    (hh : A.handled = none) (hr : IsRange s.heap r 0 b 1 t u v) (hsm : Builtin.Range.small 0 b 1 = true) (hn : Builtin.Range.rangeSize 0 b 1 = ((n : Nat) : Int))
    (F : Fr h₀ env.locals s.heap m₀) (N : News h₀ env.locals s.heap news) (hj : J 0 news)
    (turn : ∀ (i : Nat) (tv : Tok) u nx h tk own, i < n → J i nx → OwnOff own (nx.map (·.1)) → Fr h₀ env.locals h (fun y => if y = x then some (.int (i : Int) tv) else lost stored u m₀ y) → News h₀ env.locals h (own ++ nx) →
      wpAny (model prog w) A (execs body env) (TurnPost h₀ env.locals stored m₀ (J (i + 1)) own { s with heap := h, toks := tk } Q) E { s with heap := h, toks := tk })
    (done : ∀ u nx h tk, J n nx → Fr h₀ env.locals h (lost stored u m₀) → News h₀ env.locals h nx → Q .next { s with heap := h, toks := tk }) :
    wpAny (model prog w) A (pyIter (.ref r)) (fun it s₂ => LoopAtV prog w A h₀ env x body Q E it s₂) E s := by
  refine wpAny_pyIter_range hr hsm ?_
  have W := LCg.range_walks (prog := prog) (w := w) (A := A) (I := s.heap.objs.size) hh 0 n
  refine iter_genR stored J W (next_is_new F) (Nat.ne_of_gt F.ns.lt) (fun i h st => ⟨_, st⟩) (fun p hp e => absurd (Heap.lt_size (N p hp).1) (e ▸ Nat.lt_irrefl _)) ?_ (F.push _) (fun p hp => ⟨Heap.get?_push_of_some _ (N p hp).1, (N p hp).2⟩) hj (fun i vv u nx h tk own hi hP => ?_) done
  · show IsRangeIter _ _ _ _ _
    rw [hn]
    simpa using Heap.get?_push_size _ rfl
  · obtain ⟨tv, rfl⟩ := hP
    have e0 : (0 : Int) + (i : Int) = (i : Int) := Int.zero_add _
    rw [e0]
    exact turn i tv u nx h tk own hi
end
end
section
set_option tactic.hygienic false
theorem ln91 : True := by
  k_with_none
  (k_with "room" => first | exact roomE (by assumption) | exact roomD (by assumption) (by first | decide | omega) | ((try simp only [depth_mark, depth_under_make, depth_under_kw, depth_in1, depth_deeper, depth_caller]); (try dsimp only [ktrTop]); omega))
  (k_with "mem" => first | exact List.mem_cons_self | (refine List.mem_cons_of_mem _ ?_; first | ktr_member | k_mem))
  (k_with "enter" => (refine' code_def (by first | (k_asm) | fail "no") (by first | (k_asm) | fail "no") (by first | (k_asm) | fail "no") (by first | (k_asm) | fail "no") (by first | (k_asm) | fail "no") (by first | (exact rfl) | fail "no") (by first | (exact rfl) | fail "no") (by first | (first | exact rfl | assumption) | fail "no") (by first | (k_is) | fail "no") (by first | (k_is) | fail "no") (by first | (k_room) | fail "no") (by first | (first | exact BindsTo.of_eq rfl | exact binds_K (by k_in) rfl (by k_is) rfl rfl rfl) | fail "no") (by first | (exact locs rfl) | fail "no") ?_ (by first | (exact rfl) | fail "no") (by first | (exact rfl) | fail "no") (by first | (exact rfl) | fail "no") (by first | (decide) | fail "no"); k_whole; intro g' L' h' FG' F' N' B' X' T'; (try dsimp only); (try k_fold); (try (refine (let en9 := _; let ar9 := Around.deeper _ en9; (?_ : wpAny _ ar9 (execs _ en9) _ _ _))))))
  (k_with "exec For Name Name cons nil" => (k_here; (rename Fr _ _ _ _ => lF'); (with_unfolding_all refine' For_invVF lF' (by first | (exact rfl) | fail "no") (by first | (exact rfl) | fail "no") ?_; k_whole)))
  (k_with "exec For Name Call cons nil" => (k_here; (rename Fr _ _ _ _ => lF'); (with_unfolding_all refine' For_invVF lF' (by first | (exact rfl) | fail "no") (by first | (exact rfl) | fail "no") ?_; k_whole)))
  (k_with "pyIter ref" => (refine Held.out ?_))
  (k_with "subscriptTail" => (k_here; (with_reducible show wpAny _ _ (subscriptTail _ _ (Value.ref _) (Value.int 0 _)) _ _ _); k_dflt (refine' item0 (by first | (exact News.isTup (by k_asm) (by k_mem)) | fail "no") ?_ (by first | (with_unfolding_all rfl) | fail "no"); k_whole)))
  (k_with "compareOp NotIn str ref" => (k_here; (with_reducible show wpAny _ _ (compareOp CmpOp.NotIn (Value.str _ _) (Value.ref _)) _ _ _); (with_unfolding_all refine' notin_tuple_strs (by first | ((refine' tupK (by first | (k_in) | fail "no") (by first | (k_dflt k_is) | fail "no"))) | fail "no") (by first | (repeat constructor) | fail "no") ?_; k_whole)))
  (k_with "ite" => (refine ite_no (by first | ((simp only [beq_eq_false_iff_ne, ne_eq]; assumption)) | fail "no") ?_))
  (k_with "TurnPost" => (dsimp only [TurnPost]))
  trivial

theorem ln92 : True := by
  (k_with "call ref" => (refine Held.out ?_))
  (k_with "eval ListComp" => (k_here; (with_unfolding_all refine' comp_evalN (by first | (exact rfl) | fail "no") (by first | (exact rfl) | fail "no") (by first | (decide) | fail "no") (by first | (exact rfl) | fail "no") (by first | (decide) | fail "no") (by first | (exact rfl) | fail "no") ?_ (by first | ((intro _; rfl)) | fail "no"); k_whole)))
  (k_with "compareOp NotEq ref ref" => (k_here; k_dflt (refine' ne_nilL (by first | (exact News.isList (by k_asm) (by k_mem)) | fail "no") (by first | (exact News.isList (by k_asm) (by k_mem)) | fail "no") (by first | ((first | exact roomU (by assumption) (by first | decide | omega) | exact roomV (by assumption) (by first | decide | omega) | ((try simp only [units_in1, units_deeper, Around.mark_units, units_caller]); (try dsimp only [ktrTop]); omega))) | fail "no") ?_)))
  (k_with "subscriptTail Name Constant ref int" => (k_here; (with_reducible show wpAny _ _ (subscriptTail _ _ (Value.ref _) (Value.int 0 _)) _ _ _); k_dflt (first | (refine' item0 (by first | (exact News.isTup (by k_asm) (by k_mem)) | fail "no") ?_ (by first | (with_unfolding_all rfl) | fail "no"); k_whole) | (refine' item_listAt (by first | (exact News.isList (by k_asm) (by k_mem)) | fail "no") (by first | (decide) | fail "no") (by first | (decide) | fail "no") (by first | (exact rfl) | fail "no") ?_ (by first | (with_unfolding_all rfl) | fail "no"); k_whole))))
  (k_with "subscriptTail Subscript Constant ref int" => (k_here; (with_reducible show wpAny _ _ (subscriptTail _ _ (Value.ref _) (Value.int 0 _)) _ _ _); k_dflt (first | (refine' item0 (by first | (exact News.isTup (by k_asm) (by k_mem)) | fail "no") ?_ (by first | (with_unfolding_all rfl) | fail "no"); k_whole) | (refine' item_listAt (by first | (exact News.isList (by k_asm) (by k_mem)) | fail "no") (by first | (decide) | fail "no") (by first | (decide) | fail "no") (by first | (exact rfl) | fail "no") ?_ (by first | (with_unfolding_all rfl) | fail "no"); k_whole))))
  trivial

theorem RowsIn.unc {news : List (Addr × Obj)} {vs : List Value} {r : Row} {rs : List Row} (h : RowsIn news vs (r :: rs)) : ∃ v us, vs = v :: us ∧ RowIn news v r := by
  cases h with | cons h1 h2 => exact ⟨_, _, rfl, h1⟩
theorem drop_mem {tl R : List (Addr × Obj)} {sr ll : Addr} {i j : Int} {ti tj : Tok} {n n'' : Nat} {ls : List Value} {xs : List Str} (h4 : (ll, listOf ls.toArray n'') ∈ tl ++ (sr, listOf #[.int i ti, .int j tj] n) :: R) (h5 : LabsIn ls xs) : (ll, listOf ls.toArray n'') ∈ tl ++ R := by
  rcases List.mem_append.mp h4 with h4 | h4
  · exact List.mem_append.mpr (.inl h4)
  · rcases List.mem_cons.mp h4 with e | h4
    · exfalso
      have e2 := congrArg (fun p => p.2.data) e
      have e3 : Data.seq _ _ = Data.seq _ _ := e2
      injection e3 with e4 _
      have e5 := congrArg Array.toList e4
      rw [List.toList_toArray] at e5
      rw [e5] at h5
      cases h5
    · exact List.mem_append.mpr (.inr h4)
/-- the source is no part of a row -/
theorem RowIn.drop {tl R : List (Addr × Obj)} {sr : Addr} {i j : Int} {ti tj : Tok} {n : Nat} {v : Value} {r : Row} (h : RowIn (tl ++ (sr, listOf #[.int i ti, .int j tj] n) :: R) v r) : RowIn (tl ++ R) v r := by
  have T : TupSub (tl ++ (sr, listOf #[.int i ti, .int j tj] n) :: R) (tl ++ R) := fun a vs k hm => by
    rcases List.mem_append.mp hm with hm | hm
    · exact List.mem_append.mpr (.inl hm)
    · rcases List.mem_cons.mp hm with e | hm
      · have := congrArg (fun p => p.2.cls) e
        exact absurd this (by show ¬(Value.type "tuple" = Value.type "list"); decide)
      · exact List.mem_append.mpr (.inr hm)
  obtain ⟨h1, h2, h3, h4, h5⟩ := h
  refine .mk (T _ _ _ h1) (T _ _ _ h2) (h3.monoT T) (drop_mem h4 h5) h5
theorem three_ints {f : Nat} {r : Value} {t0 t1 t2 : Tok} (h : [Value.int 0 t0, .int 5 t1, .int 0 t2][f]? = some r) : ∃ i t, r = .int i t ∧ 0 ≤ i ∧ i < 6 := by
  match f, h with
  | 0, h => cases h; exact ⟨_, _, rfl, by decide, by decide⟩
  | 1, h => cases h; exact ⟨_, _, rfl, by decide, by decide⟩
  | 2, h => cases h; exact ⟨_, _, rfl, by decide, by decide⟩
  | n + 3, h => cases h
theorem fr_bare {h₀ h : Heap} {L : Addr} {m : Str → Option Value} (F : Fr (bare h₀ []) L h m) : Fr h₀ L h m := F
theorem news_bare {h₀ h : Heap} {L : Addr} {news : List (Addr × Obj)} (N : News (bare h₀ []) L h news) : News h₀ L h news := N
theorem stop_ok (x : Int) : ∃ n : Nat, (if (if x < 2 then x else 2) > 1 then (if x < 2 then x else 2) else 1) = (n : Int) ∧ (n = 1 ∨ n = 2) := by
  by_cases h : x < 2
  · rw [if_pos h]
    by_cases h2 : x > 1
    · omega
    · rw [if_neg h2]; exact ⟨1, rfl, .inl rfl⟩
  · rw [if_neg h, if_pos (by decide)]; exact ⟨2, rfl, .inr rfl⟩
theorem CallS.use {w : World} {mean : ExcName → Option Value} {mg mb : Str → Option Value} {sc : Addr} {us : List Value} {need : Nat} {f : Addr} {vs : List Value} {news : List (Addr × Obj)} {Post : Value → List (Addr × Obj) → Prop}
    (C : CallS w mean mg mb sc us need f vs news Post) {dp un : Nat} {gd : Option (List Code)} {cn : Str} {cs : Scope} {a : Addr} {ccd : Value} {cl : List (Str × Addr)} {outer : List Env} {A₀ : Around} {base h₀ : Heap} {L : Addr} {m : Str → Option Value} {sH : Heap} {sG : Array GenState} {sD : Drawn} {sT : Nat} {sO : OsState} {Q E : Value → Shared → Prop}
    (B : Below A₀ base outer h₀) (F : Fr h₀ L sH m) (X : (hd.heap_1 w.params).In h₀) (N : News h₀ L sH news) (T : Top hd.view_1 lo mean mg mb h₀) (hS : h₀.IsList sc us.toArray) (hk : cs.kind = .function) (hd : dp + need < recursionLimit) (hu : un + 8 * need < cLine)
    (ret : ∀ r tl h' tk', Fr h₀ L h' m → News h₀ L h' (tl ++ news) → (∀ p ∈ tl, ∀ q ∈ news, q.1 < p.1) → Post r tl → Q r { heap := h', gens := sG, drawn := sD, toks := tk', os := sO }) :
    wpAny (model PySem.Challenge.rw_pf0071_01.prog w) (ktrTop dp un gd cn cs L a ccd cl outer) (call (.ref f) vs) Q E { heap := sH, gens := sG, drawn := sD, toks := sT, os := sO } := C _ _ _ _ _ _ _ _ _ _ _ _ _ _ _ _ _ _ _ _ _ B F X N T hS hk hd hu ret
theorem lawDp {n : Nat} (h : n ≤ 480) : callerA.depth + 1 + (n + 25) < recursionLimit := Nat.lt_of_le_of_lt (Nat.add_le_add_left (Nat.add_le_add_right h 25) _) (by decide +kernel)
theorem lawUn {n : Nat} (h : n ≤ 480) : callerA.units + 3 + 8 * (n + 25) < cLine := Nat.lt_of_le_of_lt (Nat.add_le_add_left (Nat.mul_le_mul_left 8 (Nat.add_le_add_right h 25)) _) (by decide +kernel)
theorem tab_right {r : Row} (h : r ∈ tab) : r.right = true := (tab_good r h).right
theorem ln93 : True := by
  (k_with "fold" => (first | (fail_if_success k_fold) | (refine (let qk : _ → Shared → Prop := _; (?_ : wpAny _ _ _ qk _ _)))))
  trivial

set_option pp.maxSteps 3000 in
set_option maxRecDepth 100000 in
set_option maxHeartbeats 8000000 in
theorem law_holds : PySem.Challenge.rw_pf0071_01.Holds := by
  refine holds_law said fun _ => hd ?_
  k_fill
  intro w s₀ s₁ mg mb G0 Y0 fa0 o0 pm0 cd0 doc0 dV0 kV0 ho0 hd0 hcd0 hD0 hmg0 hg0 args0 vals0 as0 hpre0 hlay0 hrd0 hwl0 hlo0
  have KX0 := kIn_of Y0
  have X0 := (Ground.X G0).1
  have V0 := (Ground.X G0).2
  have GL0 := glob_more (Ground.glob G0 (by decide +kernel) (by decide +kernel)) V0
  refine Ground.open G0 ?_
  intro T0 B0 D0 TE0 TW0
  try (refine guard_noD D0 (by decide +kernel) ?_; clear D0)
  obtain ⟨_, _, M0⟩ := bmod_of_top T0
  have TA0 := at_of_top T0
  try (obtain ⟨_, _, he, B1⟩ := based_of_top T0 rfl hmg0 ho0 hd0; have he' : cd0 = _ := he; subst he'; clear he)
  clear hmg0
  wrow_args hpre0 hlay0 hrd0 hwl0 hlo0
  all_goals (
    first | refine callC_kw (enter_call ?_) | refine enter_call ?_ | refine callC_kw (enter_callW ?_) | refine enter_callW ?_ | w_how
    w_top on
    try refine codeAny_mono ?_ (fun _ _ g => GoodW.toG g)
    have K0 := below_caller (Top.heap T0)
    w_call any ho0 hd0 hcd0 hD0 T0 F0
    clear hd0 TA0
    k_drop
    skip)
  obtain ⟨sH, sG, sD, sT, sO⟩ := s₁
  dsimp only at *
  try (refine (let en9 := _; let ar9 := Around.deeper _ en9; (?_ : wpAny _ ar9 (execs _ en9) _ _ _)))
  all_goals try k_fold
  k_steps
  rename Fr _ _ _ _ => F9
  rename News _ _ _ _ => N9
  rename Below _ _ _ _ => B9
  rename Frag.In _ _ => X9
  rename Top _ _ _ _ _ _ => T9
  refine Held.intro ?_
  try k_extra "fold"
  refine (Call.use law_table_spec B9 F9 X9 N9 T9 rfl ?_ ?_ ?_)
  · decide +kernel
  · decide +kernel
  · rintro r9 tl9 h9 tk9 F8 N8 l9 ⟨lt, vs, nt, rfl, ht, R9⟩
    rw [List.append_nil] at N8
    clear F9 N9 l9
    have RR := table_rows R9
    clear R9
    try dsimp only
    try k_extra "fold"
    k_steps
    rename Fr _ _ _ _ => F9
    rename News _ _ _ _ => N9
    refine Held.intro ⟨lt, vs, nt, fun i ys tl => tl = [] ∧ ys = [], _, _, _, rfl, ht, (by rw [RR.length]; decide +kernel), F9, N9, ⟨rfl, rfl⟩, ?_, ?_⟩
    · intro C i v ys tl h tk own mC E' hv hG ho hm' SF SN F8 N8
      obtain ⟨rfl, rfl⟩ := hG
      obtain ⟨r, hr, R⟩ := RR.get hv
      have hrt := List.mem_of_getElem? hr
      have hn := F8.ns
      clear F9 N9
      refine wpAny_tests_one ?_
      try k_extra "fold"
      k_steps
      refine Held.intro ?_
      try k_extra "fold"
      refine (CallZ.use (law_right_spec (R.mono fun p hp => List.mem_append.mpr (.inr hp)) (Nat.le_trans (tab_small r hrt).1 (by decide))) B9 SF.out X9 SN.out T9 X9 T9 rfl (lawDp (Nat.le_trans (Nat.mul_le_mul_left 6 (tab_small r hrt).1) (by decide))) (lawUn (Nat.le_trans (Nat.mul_le_mul_left 6 (tab_small r hrt).1) (by decide))) ?_)
      rintro r9 h9 tk9 F7 N7 U7 rfl
      rw [tab_right hrt]
      clear F8 N8
      try dsimp only
      try k_extra "fold"
      k_steps
      refine Held.intro ⟨_, _, rfl, F7, N7, ?_⟩
      rw [if_neg (by decide)]
      exact ⟨rfl, rfl⟩
    · intro D h' tk ys tl k hD hG F8 N8
      obtain ⟨rfl, rfl⟩ := hG
      clear F9 N9
      obtain ⟨v0, vs, rfl, R0⟩ := RowsIn.unc (r := ⟨one .ret, true, false, [], false, false⟩) RR
      have hgo : RowsIn tl9 (v0 :: vs) tab := RR
      obtain ⟨p1, p2, p3, p4, p5⟩ := R0
      simp only [List.nil_append] at N8
      try k_extra "fold"
      k_steps
      rename Fr _ _ _ _ => F9
      rename News _ _ _ _ => N9
      refine Held.intro ?_
      try k_extra "fold"
      refine (Call.use (law_block_spec (by k_mem)) B9 F9 X9 N9 T9 rfl (by decide +kernel) (by decide +kernel) ?_)
      rintro r9 tl1 h9 tk9 F8 N8 l9 ⟨a1, t1, u1, rfl, rfl⟩
      obtain la := l9 _ (.head _)
      simp only [List.singleton_append] at N8
      clear F9 N9 l9
      dsimp only at la
      (obtain la := allLt_of la; simp only [AllLt, and_true] at la)
      try dsimp only
      try k_extra "fold"
      k_steps
      rename Fr _ _ _ _ => F9
      rename News _ _ _ _ => N9
      refine Held.intro ?_
      try k_extra "fold"
      refine (Call.use (law_block_spec (by k_mem)) B9 F9 X9 N9 T9 rfl (by decide +kernel) (by decide +kernel) ?_)
      rintro r9 tl2 h9 tk9 F8 N8 l9 ⟨a2, t2, u2, rfl, rfl⟩
      obtain la := l9 _ (.head _)
      simp only [List.singleton_append] at N8
      clear F9 N9 l9
      dsimp only at la
      (obtain la := allLt_of la; simp only [AllLt, and_true] at la)
      try dsimp only
      try k_extra "fold"
      k_steps
      rename Fr _ _ _ _ => F9
      rename News _ _ _ _ => N9
      refine Held.intro ?_
      try k_extra "fold"
      refine (Call.use ((is_terminating_spec (one (.if2 (one .ret) (.if1 (one .ret))))).use (.head _) (.cons (.if2 (by k_mem) (.mk (by k_mem) (by k_mem) (p3.mono (sub_tail (sub_tail (sub_tail (sub_tail (sub_tail (sub_tail (sub_tail sub_self))))))))) (.if1 (by k_mem) (.mk (by k_mem) (by k_mem) (p3.mono (sub_tail (sub_tail (sub_tail (sub_tail (sub_tail (sub_tail (sub_tail sub_self))))))))))) .nil)) B9 F9 X9 N9 T9 rfl (by decide +kernel) (by decide +kernel) ?_)
      rintro r9 tl3 h9 tk9 F8 N8 l9 ⟨rfl, rfl⟩
      rw [show terms (one (.if2 (one .ret) (.if1 (one .ret)))) = false from rfl]
      simp only [List.nil_append] at N8
      clear F9 N9 l9
      try dsimp only
      try k_extra "fold"
      k_steps
      rename Fr _ _ _ _ => F9
      rename News _ _ _ _ => N9
      refine Held.intro ?_
      try k_extra "fold"
      refine (Call.use (law_for2_spec (by k_mem) (.some (by decide))) B9 F9 X9 N9 T9 rfl (by decide +kernel) (by decide +kernel) ?_)
      rintro r9 tl3 h9 tk9 F8 N8 l9 ⟨a3, b3, t3, u3, t4, u4, rfl, rfl⟩
      obtain la := l9 _ (.head _)
      obtain lb := l9 _ (.tail _ (.head _))
      simp only [List.cons_append, List.nil_append] at N8
      clear F9 N9 l9
      dsimp only at la lb
      (obtain la := allLt_of la; simp only [AllLt, and_true] at la)
      (obtain lb := allLt_of lb; simp only [AllLt, and_true] at lb)
      try dsimp only
      try k_extra "fold"
      k_steps
      rename Fr _ _ _ _ => F9
      rename News _ _ _ _ => N9
      refine Held.intro ?_
      try k_extra "fold"
      refine (Call.use (HbAt2.use (has_break2_spec (.cons (.for_ (some lM) true .nil) (one (.brk (some lM))))) (.some (by decide)) (.head _) (.cons (.for_ (by k_mem) (.some (by decide)) .none (.mk (by k_mem) (by k_mem) .nil)) (.cons (.brk (by k_mem) (.some (by decide))) .nil))) B9 F9 X9 N9 T9 rfl (by decide +kernel) (by decide +kernel) ?_)
      rintro r9 tl3 h9 tk9 F8 N8 l9 ⟨rfl, rfl⟩
      rw [show hbs (.cons (.for_ (some lM) true .nil) (one (.brk (some lM)))) (some (Str.ofString "M")) true = true by decide +kernel]
      simp only [List.nil_append] at N8
      clear F9 N9 l9
      have N9 := news_sub N8 (sub_tail (sub_tail (sub_tail (sub_tail (sub_tail (sub_tail (sub_tail (sub_tail (sub_tail (sub_tail (sub_tail (sub_tail sub_self))))))))))))
      clear N8 p1 p2 p3 p4 p5
      try dsimp only
      try k_extra "fold"
      k_steps
      rename IsRange _ _ _ _ _ _ _ _ => hr9
      rename ∀ b o, _ → _ => kp9
      rename Fr _ _ _ _ => F9
      rename News _ _ _ _ => N9
      obtain ⟨n9, e9, hn9⟩ := stop_ok _
      rw [e9] at hr9
      refine Held.intro ?_
      try k_extra "fold"
      refine (iter_range (n := n9) [Str.ofString "k", Str.ofString "source", Str.ofString "turn", Str.ofString "one", Str.ofString "other", Str.ofString "third", Str.ofString "whole"]
        (fun _ nx => ∀ p ∈ tl9, p ∈ nx) rfl hr9 (by rcases hn9 with rfl | rfl <;> decide) (by rcases hn9 with rfl | rfl <;> decide) F9 N9 (fun _ h => h) ?_ ?_)
      · intro i tv u nx h tk own hi hJ ho F8 N8
        clear F9 N9 hr9 kp9
        try k_extra "fold"
        k_steps
        rename Fr _ _ _ _ => F9
        rename News _ _ _ _ => N9
        rename Heap.IsList _ _ _ => hS9
        rename IntsAre _ _ => hI9
        refine Held.intro ?_
        try k_extra "fold"
        refine (CallS.use (law_pool_spec hI9 (by assumption) (by assumption) (Int.natCast_nonneg i) (by omega)) B9 F9 X9 N9 T9 hS9 rfl (by decide +kernel) (by decide +kernel) ?_)
        rintro r9 tl1 h1 tk1 F8 N8 l9 ⟨sr, i0, j0, ti, tj, ns, rfl, rfl, hj0, hj1⟩
        have hsr : ∀ p ∈ own ++ nx, p.1 ≠ sr := fun p hp => Nat.ne_of_lt (l9 _ (.head _) p hp)
        clear F9 N9 l9 hS9 hI9
        simp only [List.singleton_append] at N8
        try dsimp only
        try k_extra "fold"
        k_steps
        rename IsRange _ _ _ _ _ _ _ _ => hr9
        rename ∀ b o, _ → _ => kp9
        rename Fr _ _ _ _ => F9
        rename News _ _ _ _ => N9
        refine Held.intro ?_
        try k_extra "fold"
        refine (iter_range (n := 4) [Str.ofString "turn", Str.ofString "one", Str.ofString "other", Str.ofString "third", Str.ofString "whole"]
          (fun _ nx' => ∃ i0 j0 ti tj rest, nx' = (sr, listOf #[.int i0 ti, .int j0 tj] ns) :: rest ∧ (∀ p ∈ rest, p.1 ≠ sr) ∧ (∀ p ∈ own ++ nx, p ∈ rest) ∧ 0 ≤ j0 ∧ j0 < 2147483647) rfl hr9 (by decide) (by decide) F9 N9 ⟨i0, j0, ti, tj, own ++ nx, rfl, hsr, fun _ h => h, hj0, hj1⟩ ?_ ?_)
        · clear F9 N9 hr9 kp9 hj0 hj1
          intro i2 tv2 u2 nx2 h2 tk2 own2 hi2 hP9 ho2 F8 N8
          try k_extra "fold"
          obtain ⟨i1, j1, ti1, tj1, rest, rfl, hap, hsub, hj0, hj1⟩ := hP9
          have hapR : ∀ p ∈ own2 ++ rest, p.1 ≠ sr := fun p hp => by
            rcases List.mem_append.mp hp with hp | hp
            · exact ho2 p hp sr (List.mem_map.mpr ⟨_, .head _, rfl⟩)
            · exact hap p hp
          have hin : ∀ p ∈ tl9, p ∈ own2 ++ rest := fun p hp => List.mem_append.mpr (.inr (hsub p (List.mem_append.mpr (.inr (hJ p hp)))))
          have hlt := hin _ ht
          have tabR := hgo.mono hin
          have N9 : News _ _ h2 ((sr, listOf #[.int i1 ti1, .int j1 tj1] ns) :: (own2 ++ rest)) := fun p hp => N8 p (by
            rcases List.mem_cons.mp hp with rfl | hp
            · exact List.mem_append.mpr (.inr (.head _))
            · rcases List.mem_append.mp hp with hp | hp
              · exact List.mem_append.mpr (.inl hp)
              · exact List.mem_append.mpr (.inr (.tail _ hp)))
          have hown : ∀ p ∈ own2 ++ rest, p ∈ own2 ++ rest := fun _ h => h
          clear N8 hin
          generalize hR : own2 ++ rest = R at hapR hlt tabR N9
          try k_extra "fold"
          k_steps
          rename Fr _ _ _ _ => F9
          rename News _ _ _ _ => N9
          refine Held.intro ?_
          try k_extra "fold"
          refine (CallM.use (law_one_spec hlt (by rw [RowsIn.length hgo]; decide +kernel) (by rw [RowsIn.length hgo]; decide +kernel) hj0 hj1 hapR) B9 F9 X9 (show News _ _ _ ([(sr, _)] ++ R) from N9) T9 rfl (by decide +kernel) (by decide +kernel) ?_ fun h => h.elim)
          intro w1 nx19 h19 tk19 F8 N8 hP9
          try k_extra "fold"
          obtain ⟨f1, i19, j19, ti19, tj19, hx1, rfl, hj0, hj1⟩ := hP9
          obtain ⟨r1, hr1, R1⟩ := tabR.get hx1
          have g1 := List.mem_of_getElem? hr1
          clear F9 N9 hx1 hr1
          simp only [List.singleton_append] at N8
          try dsimp only
          try k_extra "fold"
          k_steps
          rename Fr _ _ _ _ => F9
          rename News _ _ _ _ => N9
          refine Held.intro ?_
          try k_extra "fold"
          refine (CallM.use (law_one_spec hlt (by rw [RowsIn.length hgo]; decide +kernel) (by rw [RowsIn.length hgo]; decide +kernel) hj0 hj1 hapR) B9 F9 X9 (show News _ _ _ ([(sr, _)] ++ R) from N9) T9 rfl (by decide +kernel) (by decide +kernel) ?_ fun h => h.elim)
          intro w2 nx29 h29 tk29 F8 N8 hP9
          try k_extra "fold"
          obtain ⟨f2, i29, j29, ti29, tj29, hx2, rfl, hj0, hj1⟩ := hP9
          obtain ⟨r2, hr2, R2⟩ := tabR.get hx2
          have g2 := List.mem_of_getElem? hr2
          clear F9 N9 hx2 hr2
          simp only [List.singleton_append] at N8
          try dsimp only
          try k_extra "fold"
          k_steps
          rename Fr _ _ _ _ => F9
          rename News _ _ _ _ => N9
          refine Held.intro ?_
          try k_extra "fold"
          refine (CallM.use (law_one_spec hlt (by rw [RowsIn.length hgo]; decide +kernel) (by rw [RowsIn.length hgo]; decide +kernel) hj0 hj1 hapR) B9 F9 X9 (show News _ _ _ ([(sr, _)] ++ R) from N9) T9 rfl (by decide +kernel) (by decide +kernel) ?_ fun h => h.elim)
          intro w3 nx39 h39 tk39 F8 N8 hP9
          try k_extra "fold"
          obtain ⟨f3, i39, j39, ti39, tj39, hx3, rfl, hj0, hj1⟩ := hP9
          obtain ⟨r3, hr3, R3⟩ := tabR.get hx3
          have g3 := List.mem_of_getElem? hr3
          clear F9 N9 hx3 hr3
          simp only [List.singleton_append] at N8
          try dsimp only
          try k_extra "fold"
          k_steps
          rename Fr _ _ _ _ => F9
          rename News _ _ _ _ => N9
          have N8 : News _ _ _ ([(sr, _)] ++ R) := news_sub N9 (sub_tail sub_self)
          clear N9
          refine Held.intro ?_
          try k_extra "fold"
          refine (CallM.use (law_take_spec (by decide) (by decide) hj0 hj1 hapR) B9 F9 X9 N8 T9 rfl (by decide +kernel) (by decide +kernel) ?_ fun h => h.elim)
          intro w4 nx49 h49 tk49 F7 N9 hP9
          try k_extra "fold"
          obtain ⟨f4, tf4, i49, j49, ti49, tj49, rfl, hf0, hf1, rfl, hj0, hj1⟩ := hP9
          clear F9 N8
          simp only [List.singleton_append] at N9
          try dsimp only
          try k_extra "fold"
          k_steps
          rename Fr _ _ _ _ => F9
          rename News _ _ _ _ => N9
          have sbR : ∀ p ∈ own2 ++ rest, p ∈ R := fun p hp => by rw [← hR]; exact hp
          have c1 := tab_small _ g1
          have c2 := tab_small _ g2
          have c3 := tab_small _ g3
          refine Held.intro ?_
          try k_extra "fold"
          refine (Call.use (law_put_spec hf0 hf1 (R1.mono sub_t1) (R2.mono sub_t1) (R3.mono sub_t1) (Nat.le_trans c1.2 (by decide)) (Nat.le_trans c2.2 (by decide)) (Nat.le_trans c3.2 (by decide))) B9 F9 X9 N9 T9 rfl (by decide +kernel) (by decide +kernel) ?_)
          rintro wv tl5 h59 tk59 F8 N8 l9 RW
          have RW5 := RW.drop
          have hap5 : ∀ p ∈ tl5 ++ R, p.1 ≠ sr := fun p hp => by
            rcases List.mem_append.mp hp with hp | hp
            · exact Nat.ne_of_gt (l9 p hp _ (.head _))
            · exact hapR p hp
          have sb5 : ∀ p ∈ own2 ++ rest, p ∈ tl5 ++ R := fun p hp => List.mem_append.mpr (.inr (sbR p hp))
          have N9 : News _ _ h59 ((sr, _) :: (tl5 ++ R)) := fun p hp => N8 p (by
            rcases List.mem_cons.mp hp with rfl | hp
            · exact List.mem_append.mpr (.inr (.head _))
            · rcases List.mem_append.mp hp with hp | hp
              · exact List.mem_append.mpr (.inl hp)
              · exact List.mem_append.mpr (.inr (.tail _ hp)))
          clear F9 N8 l9 RW
          generalize tl5 ++ R = S at RW5 hap5 sb5 N9
          try dsimp only
          try k_extra "fold"
          k_steps
          rename Fr _ _ _ _ => F9
          rename News _ _ _ _ => N9
          have gd5 := Good.put f4 (tab_good _ g1) (tab_good _ g2) (tab_good _ g3)
          have z5 := put_sz f4 r1 r2 r3
          have y5 := put_labs f4 r1 r2 r3
          generalize Row.put f4 r1 r2 r3 = ro5 at RW5 gd5 z5 y5
          have z5' : ro5.body.sz ≤ 24 := by omega
          have y5' : ro5.labels.length ≤ 5 := by omega
          clear z5 y5 R1 R2 R3
          refine Held.intro ?_
          try k_extra "fold"
          refine (CallZ.use (law_right_spec (RW5.mono sub_t1) (Nat.le_trans z5' (by decide))) B9 F9 X9 N9 T9 X9 T9 rfl (lawDp (Nat.le_trans (Nat.mul_le_mul_left 6 z5') (by decide))) (lawUn (Nat.le_trans (Nat.mul_le_mul_left 6 z5') (by decide))) ?_)
          rintro r9 h9 tk9 F8 N8 U8 rfl
          rw [gd5.right]
          replace F8 := fr_bare F8
          replace N8 := news_bare N8
          clear F9 N9 U8
          try dsimp only
          try k_extra "fold"
          k_steps
          rename Fr _ _ _ _ => F9
          rename News _ _ _ _ => N9
          rename _ < _ ∧ AllLt _ S => lz9
          have lzsr := lz9.1
          clear lz9
          have N8 : News _ _ _ ([(sr, _)] ++ ((_, listOf [Value.int 0 _, .int 5 _, .int 0 _].toArray 0) :: S)) := fun p hp => N9 p (by
            rcases List.mem_cons.mp hp with rfl | hp
            · exact .tail _ (.head _)
            · rcases List.mem_cons.mp hp with rfl | hp
              · exact .head _
              · exact .tail _ (.tail _ hp))
          refine Held.intro ?_
          try k_extra "fold"
          refine (CallM.use (law_one_spec (.head _) (by show 0 < 3; decide) (by show 3 < 100; decide) hj0 hj1 (fun p hp => by
            rcases List.mem_cons.mp hp with rfl | hp
            · exact Nat.ne_of_gt lzsr
            · exact hap5 p hp)) B9 F9 X9 N8 T9 rfl (by decide +kernel) (by decide +kernel) ?_ fun h => h.elim)
          intro w6 nx69 h69 tk69 F7 N7 hP9
          try k_extra "fold"
          obtain ⟨f6, i69, j69, ti69, tj69, hx6, rfl, hj0, hj1⟩ := hP9
          clear F9 N9 N8
          obtain ⟨f7, t7, rfl, h70, h71⟩ := three_ints hx6
          have N9 : News _ _ h69 ((sr, _) :: S) := fun p hp => N7 p (by
            rcases List.mem_cons.mp hp with rfl | hp
            · exact .head _
            · exact .tail _ (.tail _ hp))
          clear N7 hx6
          try dsimp only
          try k_extra "fold"
          k_steps
          rename Fr _ _ _ _ => F9
          rename News _ _ _ _ => N9
          refine Held.intro ?_
          try k_extra "fold"
          refine (Call.use (law_put_spec h70 h71 (RW5.mono sub_t1) (RW5.mono sub_t1) (RW5.mono sub_t1) y5' y5' y5') B9 F9 X9 N9 T9 rfl (by decide +kernel) (by decide +kernel) ?_)
          rintro wv8 tl8 h89 tk89 F8 N8 l9 RW
          have RW8 := RW.drop
          have hap8 : ∀ p ∈ tl8 ++ S, p.1 ≠ sr := fun p hp => by
            rcases List.mem_append.mp hp with hp | hp
            · exact Nat.ne_of_gt (l9 p hp _ (.head _))
            · exact hap5 p hp
          have sb8 : ∀ p ∈ own2 ++ rest, p ∈ tl8 ++ S := fun p hp => List.mem_append.mpr (.inr (sb5 p hp))
          have N9 : News _ _ h89 ((sr, _) :: (tl8 ++ S)) := fun p hp => N8 p (by
            rcases List.mem_cons.mp hp with rfl | hp
            · exact List.mem_append.mpr (.inr (.head _))
            · rcases List.mem_append.mp hp with hp | hp
              · exact List.mem_append.mpr (.inl hp)
              · exact List.mem_append.mpr (.inr (.tail _ hp)))
          clear F9 N8 l9 RW
          generalize tl8 ++ S = U at RW8 hap8 sb8 N9
          try dsimp only
          try k_extra "fold"
          k_steps
          rename Fr _ _ _ _ => F9
          rename News _ _ _ _ => N9
          have gd8 := Good.put f7 gd5 gd5 gd5
          have z8 := put_sz f7 ro5 ro5 ro5
          generalize Row.put f7 ro5 ro5 ro5 = ro8 at RW8 gd8 z8
          have z8' : ro8.body.sz ≤ 78 := by omega
          clear z8
          refine Held.intro ?_
          try k_extra "fold"
          refine (CallZ.use (law_right_spec (RW8.mono sub_t1) (Nat.le_trans z8' (by decide))) B9 F9 X9 N9 T9 X9 T9 rfl (lawDp (Nat.le_trans (Nat.mul_le_mul_left 6 z8') (by decide))) (lawUn (Nat.le_trans (Nat.mul_le_mul_left 6 z8') (by decide))) ?_)
          rintro r9 h9 tk9 F8 N8 U8 rfl
          rw [gd8.right]
          replace F8 := fr_bare F8
          replace N8 := news_bare N8
          clear F9 N9 U8
          try dsimp only
          try k_extra "fold"
          k_steps
          rename Fr _ _ _ _ => F9
          rename News _ _ _ _ => N9
          exact ⟨_, _, _, (sr, listOf #[.int i69 ti69, .int j69 tj69] ns) :: rest, rfl, F9, fun p hp => N9 p (by
            rcases List.mem_append.mp hp with hp | hp
            · exact .tail _ (sb8 p (List.mem_append.mpr (.inl hp)))
            · rcases List.mem_cons.mp hp with rfl | hp
              · exact .head _
              · exact .tail _ (sb8 p (List.mem_append.mpr (.inr hp)))), ho2,
            Same.put (by decide) (Same.put (by decide) (Same.put (by decide) (Same.put (by decide) (Same.put (by decide) (Same.lost (by decide) Same.refl))))), ⟨i69, j69, ti69, tj69, rest, rfl, hap, hsub, hj0, hj1⟩⟩
        · intro u2 nx2 h2 tk2 hP9 F8 N8
          try k_extra "fold"
          obtain ⟨i0, j0, ti, tj, rest, rfl, hap, hsub, hj0, hj1⟩ := hP9
          clear F9 N9 hr9 kp9
          try k_extra "fold"
          k_steps
          rename Fr _ _ _ _ => F9
          rename News _ _ _ _ => N9
          exact ⟨_, _, _, nx, rfl, F9, news_sub N9 fun p hp => .tail _ (hsub p hp), ho, Same.lost (by decide) (Same.put (by decide) (Same.put (by decide) (Same.lost (by decide) Same.refl))), hJ⟩
      · intro u nx h tk hJ F8 N8
        clear F9 N9 hr9 kp9
        try k_extra "fold"
        k_steps
end
end Mine
theorem PySem.Challenge.cw_pf0071_01_holds : PySem.Challenge.rw_pf0071_01.Holds :=
  Mine.law_holds
