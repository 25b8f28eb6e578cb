import PyProof.Rows.All
import Wide.All
import OpenK.AllK
import Wide.FinOn
import HandS.ForMost
import HandS.Flow
import HandS.Style
import HandS.Wide
import HandS.TupAny
import HandS.TupLe
import HandS.Small
import HandS.Deep
import HandS.SortInts
import HandS.More
import HandS.DictEq
import HandS.RaiseMore
import HandS.IsInst
import HandS.Comp
import HandS.DictComp
import HandS.Zip
import HandS.Conv
import HandS.HeadHook2
import HandS.Star
import HandS.SetFor
import HandS.SetBool
import HandS.Strs
import HandS.Zip0
import KE.KDictZip
import PyProof.P3Eq
import HandS.Ends
import HandS.HeadEnd
import HandS.HeadHook1
import HandS.Head0
import HandS.Head1
import HandS.Head2
import PySem.Challenge.RW_countsfall_k84_counts_behind_scripts
set_option Elab.async false
set_option linter.all false
set_option maxRecDepth 100000
set_option maxHeartbeats 0
/-! Z1: the layer of plain data. What a piece of code does to data (PyData) and to some mutable cells, no address in sight. -/
namespace Z
open PySem PySem.Spec PyProof.Rows L2
abbrev St := L2.St

/-! ### semantic readings: the weakest ones -/
def wE (X : Cx) (e : Expr) : TE := fun σ H Q => ∀ pins s, Inv X pins σ H s → wpAny (model X.prog X.w) X.A (eval e X.env) (EP X pins σ Q) X.xe s
def wT (X : Cx) (e : Expr) : TT := fun σ H Q => ∀ pins s, Inv X pins σ H s → wpAny (model X.prog X.w) X.A (isTrue e X.env (eval e X.env)) (TP X pins σ Q) X.xe s
def wA (X : Cx) (es : List Expr) : TA := fun σ H Q => ∀ pos pins s, Inv X pins σ H s → wpAny (model X.prog X.w) X.A (spliced (backTo pos (starEach es X.env))) (AP X pins σ Q) X.xe s
def wS (X : Cx) (st : Stmt) : TS := fun D σ H => ∀ pins s, Inv X pins σ H s → wpAny (model X.prog X.w) X.A (exec st X.env) (SP X pins D) X.xe s
def wSs (X : Cx) (st : List Stmt) : TS := fun D σ H => ∀ pins s, Inv X pins σ H s → wpAny (model X.prog X.w) X.A (execs st X.env) (SP X pins D) X.xe s
def wG (X : Cx) (tg : Expr) : TG := fun v σ H Q => ∀ pins s u, Inv X pins σ H s → RelV v u →
  wpAny (model X.prog X.w) X.A (assign tg X.env u) (fun _ s' => ∃ σ' H', Inv X pins σ' H' s' ∧ Q σ' H') X.xe s
def wI (X : Cx) (tg it : Expr) : TI := fun σ H R => ∀ pins s, Inv X pins σ H s →
  wpAny (model X.prog X.w) X.A (eval it X.env) (fun v s1 => wpAny (model X.prog X.w) X.A (pyIter v) (PIE X pins σ tg R) X.xe s1) X.xe s
section
variable {X : Cx} {e : Expr} {es : List Expr} {st : Stmt} {sts : List Stmt}
theorem pe_w : PE X e (wE X e) := ⟨fun pins s _ _ _ I h => h pins s I⟩
theorem pt_w : PT X e (wT X e) := ⟨fun pins s _ _ _ I h => h pins s I⟩
theorem pa_w : PA X es (wA X es) := ⟨fun pos pins s _ _ _ I h => h pos pins s I⟩
theorem ps_w : PS X st (wS X st) := ⟨fun pins s _ _ _ I h => h pins s I⟩
theorem pss_w : PSs X sts (wSs X sts) := ⟨fun pins s _ _ _ I h => h pins s I⟩
theorem pg_w : PG X e (wG X e) := ⟨fun pins s _ _ _ u _ I r h => h pins s u I r⟩
theorem pi_w {it : Expr} : PI X e it (wI X e it) := ⟨fun pins s _ _ _ I h => h pins s I⟩
theorem w_e {t : TE} {σ : St} {H : Hp} {Q : VK} (h : PE X e t) (q : t σ H Q) : wE X e σ H Q := fun pins s I => h.run pins s σ H Q I q
theorem w_t {t : TT} {σ : St} {H : Hp} {Q : Bool → Hp → Prop} (h : PT X e t) (q : t σ H Q) : wT X e σ H Q := fun pins s I => h.run pins s σ H Q I q
theorem w_a {t : TA} {σ : St} {H : Hp} {Q : List V → Hp → Prop} (h : PA X es t) (q : t σ H Q) : wA X es σ H Q := fun pos pins s I => h.run pos pins s σ H Q I q
theorem w_s {t : TS} {σ : St} {H : Hp} {D : Ends} (h : PS X st t) (q : t D σ H) : wS X st D σ H := fun pins s I => h.run pins s σ H D I q
theorem w_ss {t : TS} {σ : St} {H : Hp} {D : Ends} (h : PSs X sts t) (q : t D σ H) : wSs X sts D σ H := fun pins s I => h.run pins s σ H D I q
theorem w_g {t : TG} {v : V} {σ : St} {H : Hp} {Q : St → Hp → Prop} (h : PG X e t) (q : t v σ H Q) : wG X e v σ H Q := fun pins s u I r => h.run pins s σ H v u Q I r q
theorem w_i {it : Expr} {t : TI} {σ : St} {H : Hp} {R : It → Hp → Prop} (h : PI X e it t) (q : t σ H R) : wI X e it σ H R := fun pins s I => h.run pins s σ H R I q
theorem wE.mono {σ : St} {H : Hp} {Q Q' : VK} (h : wE X e σ H Q) (k : ∀ v H', Q v H' → Q' v H') : wE X e σ H Q' := fun pins s I =>
  thn (h pins s I) fun _ _ ⟨v, H', I', r, q⟩ => ⟨v, H', I', r, k v H' q⟩
theorem wT.mono {σ : St} {H : Hp} {Q Q' : Bool → Hp → Prop} (h : wT X e σ H Q) (k : ∀ b H', Q b H' → Q' b H') : wT X e σ H Q' := fun pins s I =>
  thn (h pins s I) fun _ _ ⟨H', I', q⟩ => ⟨H', I', k _ H' q⟩
theorem wA.mono {σ : St} {H : Hp} {Q Q' : List V → Hp → Prop} (h : wA X es σ H Q) (k : ∀ v H', Q v H' → Q' v H') : wA X es σ H Q' := fun pos pins s I =>
  thn (h pos pins s I) fun _ _ ⟨v, H', I', r, q⟩ => ⟨v, H', I', r, k v H' q⟩
theorem wG.mono {v : V} {σ : St} {H : Hp} {Q Q' : St → Hp → Prop} (h : wG X e v σ H Q) (k : ∀ σ' H', Q σ' H' → Q' σ' H') : wG X e v σ H Q' := fun pins s u I r =>
  thn (h pins s u I r) fun _ _ ⟨σ', H', I', q⟩ => ⟨σ', H', I', k σ' H' q⟩
theorem wI.mono {it : Expr} {σ : St} {H : Hp} {R R' : It → Hp → Prop} (h : wI X e it σ H R) (k : ∀ J H', R J H' → R' J H') : wI X e it σ H R' := fun pins s I =>
  thn (h pins s I) fun _ _ q => thn q fun _ _ ⟨a, fp, tn, J, H', h1, h2, h3, h4, h5, h6⟩ => ⟨a, fp, tn, J, H', h1, h2, h3, h4, h5, k J H' h6⟩
structure Ends.Le (D D' : Ends) : Prop where
  nx : ∀ σ H, D.nx σ H → D'.nx σ H
  rt : ∀ v H, D.rt v H → D'.rt v H
  bk : ∀ σ H, D.bk σ H → D'.bk σ H
  ct : ∀ σ H, D.ct σ H → D'.ct σ H
theorem SP.mono {pins : List (Addr × Obj)} {D D' : Ends} {f : Flow} {s : Shared} (h : SP X pins D f s) (k : Ends.Le D D') : SP X pins D' f s := by
  cases f with
  | next => obtain ⟨a, b, I, q⟩ := h; exact ⟨a, b, I, k.nx _ _ q⟩
  | brk => obtain ⟨a, b, I, q⟩ := h; exact ⟨a, b, I, k.bk _ _ q⟩
  | cont => obtain ⟨a, b, I, q⟩ := h; exact ⟨a, b, I, k.ct _ _ q⟩
  | ret u => obtain ⟨v, a, b, I, r, q⟩ := h; exact ⟨v, a, b, I, r, k.rt _ _ q⟩
theorem wS.mono {σ : St} {H : Hp} {D D' : Ends} (h : wS X st D σ H) (k : Ends.Le D D') : wS X st D' σ H := fun pins s I => thn (h pins s I) fun _ _ q => SP.mono q k
theorem wSs.mono {σ : St} {H : Hp} {D D' : Ends} (h : wSs X sts D σ H) (k : Ends.Le D D') : wSs X sts D' σ H := fun pins s I => thn (h pins s I) fun _ _ q => SP.mono q k
end

/-! ### data in a region -/
def keyD : Key → PyData
  | .inl i => .int i
  | .inr x => .str x
mutual
/-- the value v is the data d, all of it in the region F -/
inductive At (F : Hp) : V → PyData → Prop
  | non : At F .non .none
  | bl (b : Bool) : At F (.bl b) (.bool b)
  | int (i : Int) : At F (.int i) (.int i)
  | str (x : Str) : At F (.str x) (.str x)
  | lst {a : Addr} {vs : List V} {ds : List PyData} : F a = some (.lst vs) → AtAll F vs ds → At F (.ref a) (.list ds)
  | tup {a : Addr} {vs : List V} {ds : List PyData} : F a = some (.tup vs) → AtAll F vs ds → At F (.ref a) (.tuple ds)
  | dic {a : Addr} {kvs : List (Key × V)} {kds : List (PyData × PyData)} : F a = some (.dK kvs) → AtKv F kvs kds → At F (.ref a) (.dict kds)
inductive AtAll (F : Hp) : List V → List PyData → Prop
  | nil : AtAll F [] []
  | cons {v : V} {vs : List V} {d : PyData} {ds : List PyData} : At F v d → AtAll F vs ds → AtAll F (v :: vs) (d :: ds)
inductive AtKv (F : Hp) : List (Key × V) → List (PyData × PyData) → Prop
  | nil : AtKv F [] []
  | cons {k : Key} {v : V} {vs : List (Key × V)} {d : PyData} {ds : List (PyData × PyData)} : At F v d → AtKv F vs ds → AtKv F ((k, v) :: vs) ((keyD k, d) :: ds)
end
mutual
theorem At.up {F F' : Hp} (s : Same F F') : ∀ {v : V} {d : PyData}, At F v d → At F' v d
  | _, _, .non => .non
  | _, _, .bl b => .bl b
  | _, _, .int i => .int i
  | _, _, .str x => .str x
  | _, _, .lst h a => .lst (s _ _ h) (a.up s)
  | _, _, .tup h a => .tup (s _ _ h) (a.up s)
  | _, _, .dic h a => .dic (s _ _ h) (a.up s)
theorem AtAll.up {F F' : Hp} (s : Same F F') : ∀ {v : List V} {d : List PyData}, AtAll F v d → AtAll F' v d
  | _, _, .nil => .nil
  | _, _, .cons a b => .cons (a.up s) (b.up s)
theorem AtKv.up {F F' : Hp} (s : Same F F') : ∀ {v : List (Key × V)} {d : List (PyData × PyData)}, AtKv F v d → AtKv F' v d
  | _, _, .nil => .nil
  | _, _, .cons a b => .cons (a.up s) (b.up s)
end
theorem AtAll.len {F : Hp} : ∀ {v : List V} {d : List PyData}, AtAll F v d → v.length = d.length
  | _, _, .nil => rfl
  | _, _, .cons _ b => congrArg (· + 1) b.len
theorem AtAll.get {F : Hp} : ∀ {v : List V} {d : List PyData} {i : Nat} {x : PyData}, AtAll F v d → d[i]? = some x → ∃ y, v[i]? = some y ∧ At F y x
  | _, _, _, _, .nil, h => by simp at h
  | _, _, 0, _, .cons a _, h => by simp at h; subst h; exact ⟨_, rfl, a⟩
  | _, _, i + 1, _, .cons _ b, h => by
    obtain ⟨y, e, r⟩ := b.get (i := i) (by simpa using h)
    exact ⟨y, by simpa using e, r⟩
theorem AtAll.get' {F : Hp} : ∀ {v : List V} {d : List PyData} {i : Nat} {y : V}, AtAll F v d → v[i]? = some y → ∃ x, d[i]? = some x ∧ At F y x
  | _, _, _, _, .nil, h => by simp at h
  | _, _, 0, _, .cons a _, h => by simp at h; subst h; exact ⟨_, rfl, a⟩
  | _, _, i + 1, _, .cons _ b, h => by
    obtain ⟨y, e, r⟩ := b.get' (i := i) (by simpa using h)
    exact ⟨y, by simpa using e, r⟩
theorem AtAll.app {F : Hp} : ∀ {v v' : List V} {d d' : List PyData}, AtAll F v d → AtAll F v' d' → AtAll F (v ++ v') (d ++ d')
  | _, _, _, _, .nil, h => h
  | _, _, _, _, .cons a b, h => .cons a (b.app h)
theorem AtAll.take {F : Hp} : ∀ {v : List V} {d : List PyData} (n : Nat), AtAll F v d → AtAll F (v.take n) (d.take n)
  | _, _, 0, _ => .nil
  | _, _, _ + 1, .nil => .nil
  | _, _, n + 1, .cons a b => .cons a (b.take n)
theorem AtAll.drop {F : Hp} : ∀ {v : List V} {d : List PyData} (n : Nat), AtAll F v d → AtAll F (v.drop n) (d.drop n)
  | _, _, 0, h => h
  | _, _, _ + 1, .nil => .nil
  | _, _, n + 1, .cons _ b => b.drop n
theorem At.non_ {F : Hp} {v : V} (h : At F v .none) : v = .non := by cases h; rfl
theorem At.bl_ {F : Hp} {v : V} {b : Bool} (h : At F v (.bool b)) : v = .bl b := by cases h; rfl
theorem At.int_ {F : Hp} {v : V} {i : Int} (h : At F v (.int i)) : v = .int i := by cases h; rfl
theorem At.str_ {F : Hp} {v : V} {i : Str} (h : At F v (.str i)) : v = .str i := by cases h; rfl
theorem At.lst_ {F : Hp} {v : V} {ds : List PyData} (h : At F v (.list ds)) : ∃ a vs, v = .ref a ∧ F a = some (.lst vs) ∧ AtAll F vs ds := by cases h with | lst h a => exact ⟨_, _, rfl, h, a⟩
theorem At.tup_ {F : Hp} {v : V} {ds : List PyData} (h : At F v (.tuple ds)) : ∃ a vs, v = .ref a ∧ F a = some (.tup vs) ∧ AtAll F vs ds := by cases h with | tup h a => exact ⟨_, _, rfl, h, a⟩
theorem At.dic_ {F : Hp} {v : V} {ds : List (PyData × PyData)} (h : At F v (.dict ds)) : ∃ a vs, v = .ref a ∧ F a = some (.dK vs) ∧ AtKv F vs ds := by cases h with | dic h a => exact ⟨_, _, rfl, h, a⟩
theorem AtAll.ints {F : Hp} : ∀ {v : List V} {ns : List Int}, AtAll F v (ns.map .int) → v = ns.map V.int
  | _, [], h => by cases h; rfl
  | _, n :: ns, h => by cases h with | cons a b => rw [a.int_, b.ints]; rfl
theorem AtAll.of_ints {F : Hp} : ∀ {ns : List Int}, AtAll F (ns.map V.int) (ns.map .int)
  | [] => .nil
  | n :: ns => .cons (.int n) AtAll.of_ints
theorem AtAll.strs {F : Hp} : ∀ {v : List V} {ns : List Str}, AtAll F v (ns.map .str) → v = ns.map V.str
  | _, [], h => by cases h; rfl
  | _, n :: ns, h => by cases h with | cons a b => rw [a.str_, b.strs]; rfl
theorem AtAll.of_strs {F : Hp} : ∀ {ns : List Str}, AtAll F (ns.map V.str) (ns.map .str)
  | [] => .nil
  | n :: ns => .cons (.str n) AtAll.of_strs

/-! ### mutable cells -/
/-- what a slot holds: data, or the k-th mutable cell -/
inductive W where
  | d (x : PyData)
  | m (k : Nat)
/-- a mutable cell: given up, a list, a dict -/
inductive MO where
  | gone
  | lst (ws : List W)
  | dic (kvs : List (Key × W))
abbrev MS := List MO
abbrev GS := List (Option W)
def RW (F : Hp) (ι : List Addr) : V → W → Prop
  | v, .d x => At F v x
  | v, .m k => ∃ a, ι[k]? = some a ∧ v = .ref a
theorem RW.m {F : Hp} {ι : List Addr} {k : Nat} {a : Addr} (h : ι[k]? = some a) : RW F ι (.ref a) (.m k) := ⟨a, h, rfl⟩
abbrev RWs (F : Hp) (ι : List Addr) : List V → List W → Prop := Paired (RW F ι)
abbrev RKs (F : Hp) (ι : List Addr) : List (Key × V) → List (Key × W) → Prop := Paired fun p q => p.1 = q.1 ∧ RW F ι p.2 q.2
def MOk (F : Hp) (ι : List Addr) : MO → HO → Prop
  | .gone, _ => True
  | .lst ws, o => ∃ vs, o = .lst vs ∧ RWs F ι vs ws
  | .dic kws, o => ∃ kvs, o = .dK kvs ∧ RKs F ι kvs kws
/-- the region F and the cells M (at ι) stand in H -/
structure Rep (F H : Hp) (ι : List Addr) (M : MS) : Prop where
  sub : Same F H
  len : ι.length = M.length
  nd : ι.Nodup
  tr : ∀ a ∈ ι, ∃ o, H a = some o
  at_ : ∀ (k : Nat) (a : Addr) (mo : MO), ι[k]? = some a → M[k]? = some mo → mo = .gone ∨ (F a = none ∧ ∃ o, H a = some o ∧ MOk F ι mo o)
/-- what may have changed: the region and the cells have grown, all else but the cells stands -/
structure Ext (F : Hp) (ι : List Addr) (H F' : Hp) (ι' : List Addr) (H' : Hp) : Prop where
  same : Same F F'
  pre : ∃ r, ι' = ι ++ r
  kp : ∀ a o, H a = some o → a ∉ ι → H' a = some o
  fr : ∀ a ∈ ι', a ∉ ι → H a = none
  nw : ∀ a o, F' a = some o → F a = none → H a = none ∨ a ∈ ι
theorem Ext.refl (F : Hp) (ι : List Addr) (H : Hp) : Ext F ι H F ι H := ⟨Same.refl F, ⟨[], by simp⟩, fun _ _ h _ => h, fun _ h n => absurd h n, fun a o e n => by rw [n] at e; cases e⟩
theorem Ext.trans {F F1 F2 H H1 H2 : Hp} {ι ι1 ι2 : List Addr} (x : Ext F ι H F1 ι1 H1) (y : Ext F1 ι1 H1 F2 ι2 H2) : Ext F ι H F2 ι2 H2 := by
  have back : ∀ a, H1 a = none → a ∉ ι → H a = none := fun a q n => by
    cases e : H a with
    | none => rfl
    | some o =>
      rw [x.kp a o e n] at q; cases q
  refine ⟨x.same.trans y.same, ?_, fun a o h n => ?_, fun a h n => ?_, fun a o e n => ?_⟩
  · obtain ⟨r, rfl⟩ := x.pre
    obtain ⟨r', rfl⟩ := y.pre
    exact ⟨r ++ r', by rw [List.append_assoc]⟩
  · have n1 : a ∉ ι1 := fun z => by
      have := x.fr a z n
      rw [h] at this; cases this
    exact y.kp a o (x.kp a o h n) n1
  · by_cases z : a ∈ ι1
    · exact x.fr a z n
    · exact back a (y.fr a h z) n
  · by_cases m : a ∈ ι
    · exact .inr m
    · refine .inl ?_
      cases q : F1 a with
      | some u => exact (x.nw a u q n).resolve_right m
      | none =>
        rcases y.nw a o e q with z | z
        · exact back a z m
        · exact x.fr a z m
theorem RW.up {F F' : Hp} {ι ι' : List Addr} (s : Same F F') (p : ∃ r, ι' = ι ++ r) : ∀ {v : V} {w : W}, RW F ι v w → RW F' ι' v w
  | v, .d x, h => At.up s h
  | v, .m k, ⟨a, h, e⟩ => by
    obtain ⟨r, rfl⟩ := p
    exact ⟨a, by rw [List.getElem?_append_left (List.getElem?_eq_some_iff.mp h).1]; exact h, e⟩
theorem Ext.rw {F F1 H H1 : Hp} {ι ι1 : List Addr} (x : Ext F ι H F1 ι1 H1) {v : V} {w : W} (h : RW F ι v w) : RW F1 ι1 v w := h.up x.same x.pre
theorem Ext.rws {F F1 H H1 : Hp} {ι ι1 : List Addr} (x : Ext F ι H F1 ι1 H1) : ∀ {vs : List V} {ws : List W}, RWs F ι vs ws → RWs F1 ι1 vs ws := fun h => Paired.mapP h fun _ _ r => x.rw r
structure Slots (F : Hp) (ι : List Addr) (σ : St) (Γ : GS) : Prop where
  len : σ.length = Γ.length
  get : ∀ (i : Nat) (w : W), Γ[i]? = some (some w) → ∃ v, σ[i]? = some (some v) ∧ RW F ι v w
theorem Slots.up {F F' : Hp} {ι ι' : List Addr} {σ : St} {Γ : GS} (h : Slots F ι σ Γ) (s : Same F F') (p : ∃ r, ι' = ι ++ r) : Slots F' ι' σ Γ :=
  ⟨h.len, fun i w e => let ⟨v, e', r⟩ := h.get i w e; ⟨v, e', r.up s p⟩⟩
theorem Ext.slots {F F1 H H1 : Hp} {ι ι1 : List Addr} (x : Ext F ι H F1 ι1 H1) {σ : St} {Γ : GS} (h : Slots F ι σ Γ) : Slots F1 ι1 σ Γ := h.up x.same x.pre
theorem Slots.set {F : Hp} {ι : List Addr} {σ : St} {Γ : GS} (h : Slots F ι σ Γ) (i : Nat) {v : V} {w : W} (r : RW F ι v w) : Slots F ι (σ.set i (some v)) (Γ.set i (some w)) := by
  refine ⟨by simp [h.len], fun j u e => ?_⟩
  by_cases hj : i = j
  · subst hj
    by_cases hl : i < Γ.length
    · rw [List.getElem?_set_self hl] at e
      cases e
      exact ⟨v, by rw [List.getElem?_set_self (by rw [h.len]; exact hl)], r⟩
    · rw [List.getElem?_eq_none (by simpa using hl)] at e; cases e
  · rw [List.getElem?_set_ne hj] at e
    obtain ⟨v', e', r'⟩ := h.get j u e
    exact ⟨v', by rw [List.getElem?_set_ne hj]; exact e', r'⟩

/-! ### ends -/
def Post (F : Hp) (ι : List Addr) (H : Hp) (Φ : W → MS → Prop) : VK := fun v H' => ∃ F' ι' M' w, Ext F ι H F' ι' H' ∧ Rep F' H' ι' M' ∧ RW F' ι' v w ∧ Φ w M'
def PostT (F : Hp) (ι : List Addr) (H : Hp) (Φ : Bool → MS → Prop) : Bool → Hp → Prop := fun b H' => ∃ F' ι' M', Ext F ι H F' ι' H' ∧ Rep F' H' ι' M' ∧ Φ b M'
def PostA (F : Hp) (ι : List Addr) (H : Hp) (Φ : List W → MS → Prop) : List V → Hp → Prop := fun vs H' => ∃ F' ι' M' ws, Ext F ι H F' ι' H' ∧ Rep F' H' ι' M' ∧ RWs F' ι' vs ws ∧ Φ ws M'
def PostG (F : Hp) (ι : List Addr) (H : Hp) (Φ : GS → MS → Prop) : St → Hp → Prop := fun σ' H' => ∃ F' ι' M' Γ', Ext F ι H F' ι' H' ∧ Rep F' H' ι' M' ∧ Slots F' ι' σ' Γ' ∧ Φ Γ' M'
theorem Post.ret {F : Hp} {ι : List Addr} {H : Hp} {M : MS} {Φ : W → MS → Prop} {v : V} {w : W} (R : Rep F H ι M) (r : RW F ι v w) (h : Φ w M) : Post F ι H Φ v H := ⟨F, ι, M, w, Ext.refl F ι H, R, r, h⟩
theorem Post.dat {F : Hp} {ι : List Addr} {H : Hp} {M : MS} {Φ : W → MS → Prop} {v : V} {x : PyData} (R : Rep F H ι M) (r : At F v x) (h : Φ (.d x) M) : Post F ι H Φ v H := ⟨F, ι, M, .d x, Ext.refl F ι H, R, r, h⟩
theorem Post.ext {F F1 H H1 H2 : Hp} {ι ι1 : List Addr} {Φ : W → MS → Prop} {v : V} (x : Ext F ι H F1 ι1 H1) (p : Post F1 ι1 H1 Φ v H2) : Post F ι H Φ v H2 := by
  obtain ⟨F', ι', M', w, e, R, r, h⟩ := p
  exact ⟨F', ι', M', w, x.trans e, R, r, h⟩
theorem PostT.ext {F F1 H H1 H2 : Hp} {ι ι1 : List Addr} {Φ : Bool → MS → Prop} {v : Bool} (x : Ext F ι H F1 ι1 H1) (p : PostT F1 ι1 H1 Φ v H2) : PostT F ι H Φ v H2 := by
  obtain ⟨F', ι', M', e, R, h⟩ := p
  exact ⟨F', ι', M', x.trans e, R, h⟩
theorem PostA.ext {F F1 H H1 H2 : Hp} {ι ι1 : List Addr} {Φ : List W → MS → Prop} {v : List V} (x : Ext F ι H F1 ι1 H1) (p : PostA F1 ι1 H1 Φ v H2) : PostA F ι H Φ v H2 := by
  obtain ⟨F', ι', M', w, e, R, r, h⟩ := p
  exact ⟨F', ι', M', w, x.trans e, R, r, h⟩
theorem PostG.ext {F F1 H H1 H2 : Hp} {ι ι1 : List Addr} {Φ : GS → MS → Prop} {v : St} (x : Ext F ι H F1 ι1 H1) (p : PostG F1 ι1 H1 Φ v H2) : PostG F ι H Φ v H2 := by
  obtain ⟨F', ι', M', w, e, R, r, h⟩ := p
  exact ⟨F', ι', M', w, x.trans e, R, r, h⟩
/-- a new object is laid into the region -/
theorem Rep.lay {F H : Hp} {ι : List Addr} {M : MS} (R : Rep F H ι M) {p : Addr} {o : HO} (n : H p = none) : Ext F ι H (upd F p o) ι (upd H p o) ∧ Rep (upd F p o) (upd H p o) ι M := by
  have nF : F p = none := R.sub.free n
  have nι : p ∉ ι := fun z => by
    obtain ⟨o', e⟩ := R.tr p z
    rw [n] at e; cases e
  have sF : Same F (upd F p o) := fun b x e => by
    rw [upd_ne (ne_of_none e nF)]; exact e
  refine ⟨⟨sF, ⟨[], by simp⟩, fun a x e _ => by rw [upd_ne (ne_of_none e n)]; exact e, fun a h k => absurd h k, fun a x e k => .inl (by
    by_cases z : a = p
    · rw [z]; exact n
    · rw [upd_ne z, k] at e; cases e)⟩, ?_, R.len, R.nd, fun a h => ?_, fun k a mo h1 h2 => ?_⟩
  · intro b x e
    by_cases hb : b = p
    · subst hb; rw [upd_same] at e ⊢; exact e
    · rw [upd_ne hb] at e ⊢; exact R.sub b x e
  · obtain ⟨x, e⟩ := R.tr a h
    exact ⟨x, by rw [upd_ne (ne_of_none e n)]; exact e⟩
  · rcases R.at_ k a mo h1 h2 with z | ⟨z1, x, z2, z3⟩
    · exact .inl z
    · have na : a ≠ p := ne_of_none z2 n
      refine .inr ⟨by rw [upd_ne na]; exact z1, x, by rw [upd_ne na]; exact z2, ?_⟩
      cases mo with
      | gone => trivial
      | lst ws => obtain ⟨vs, e, r⟩ := z3; exact ⟨vs, e, Paired.mapP r fun _ _ q => q.up sF ⟨[], by simp⟩⟩
      | dic ws => obtain ⟨vs, e, r⟩ := z3; exact ⟨vs, e, Paired.mapP r fun _ _ q => ⟨q.1, q.2.up sF ⟨[], by simp⟩⟩⟩
theorem MOk.up {F F' : Hp} {ι ι' : List Addr} (s : Same F F') (p : ∃ r, ι' = ι ++ r) {mo : MO} {o : HO} (h : MOk F ι mo o) : MOk F' ι' mo o := by
  cases mo with
  | gone => trivial
  | lst ws => obtain ⟨vs, e, r⟩ := h; exact ⟨vs, e, Paired.mapP r fun _ _ q => q.up s p⟩
  | dic ws => obtain ⟨vs, e, r⟩ := h; exact ⟨vs, e, Paired.mapP r fun _ _ q => ⟨q.1, q.2.up s p⟩⟩
/-- a new object becomes a cell -/
theorem Rep.new {F H : Hp} {ι : List Addr} {M : MS} (R : Rep F H ι M) {p : Addr} {o : HO} {mo : MO} (n : H p = none) (h : MOk F ι mo o) : Ext F ι H F (ι ++ [p]) (upd H p o) ∧ Rep F (upd H p o) (ι ++ [p]) (M ++ [mo]) := by
  have nF : F p = none := R.sub.free n
  have nι : p ∉ ι := fun z => by
    obtain ⟨o', e⟩ := R.tr p z
    rw [n] at e; cases e
  refine ⟨⟨Same.refl F, ⟨[p], rfl⟩, fun a x e _ => by rw [upd_ne (ne_of_none e n)]; exact e, fun a h1 k => ?_, fun a x e k => by rw [k] at e; cases e⟩, ?_, by simp [R.len], ?_, fun a h1 => ?_, fun k a mo' h1 h2 => ?_⟩
  · rcases List.mem_append.mp h1 with z | z
    · exact absurd z k
    · rw [List.mem_singleton.mp z]; exact n
  · intro b x e
    rw [upd_ne (ne_of_none e nF)]; exact R.sub b x e
  · exact List.nodup_append.mpr ⟨R.nd, by simp, fun a ha b hb z => by subst z; rw [List.mem_singleton.mp hb] at ha; exact nι ha⟩
  · rcases List.mem_append.mp h1 with z | z
    · obtain ⟨x, e⟩ := R.tr a z
      exact ⟨x, by rw [upd_ne (ne_of_none e n)]; exact e⟩
    · rw [List.mem_singleton.mp z]; exact ⟨o, upd_same⟩
  · by_cases hk : k < ι.length
    · rw [List.getElem?_append_left hk] at h1
      rw [List.getElem?_append_left (by rw [← R.len]; exact hk)] at h2
      rcases R.at_ k a mo' h1 h2 with z | ⟨z1, x, z2, z3⟩
      · exact .inl z
      · exact .inr ⟨z1, x, by rw [upd_ne (ne_of_none z2 n)]; exact z2, z3.up (Same.refl F) ⟨[p], rfl⟩⟩
    · have hk1 : k = ι.length := by
        have := (List.getElem?_eq_some_iff.mp h1).1
        simp at this
        omega
      subst hk1
      rw [List.getElem?_append_right (Nat.le_refl _), Nat.sub_self] at h1
      rw [R.len, List.getElem?_append_right (Nat.le_refl _), Nat.sub_self] at h2
      cases h1
      cases h2
      exact .inr ⟨nF, o, upd_same, h.up (Same.refl F) ⟨[p], rfl⟩⟩
/-- a cell is written -/
theorem Rep.put {F H : Hp} {ι : List Addr} {M : MS} (R : Rep F H ι M) {k : Nat} {a : Addr} {o : HO} {mo m0 : MO} (ha : ι[k]? = some a) (hm : M[k]? = some m0) (hg : m0 ≠ .gone) (h : MOk F ι mo o) :
    Ext F ι H F ι (upd H a o) ∧ Rep F (upd H a o) ι (M.set k mo) := by
  have hk : k < M.length := (List.getElem?_eq_some_iff.mp hm).1
  obtain ⟨nF, _⟩ : F a = none ∧ ∃ o, H a = some o ∧ MOk F ι m0 o := (R.at_ k a m0 ha hm).resolve_left hg
  have mem : a ∈ ι := List.mem_of_getElem? ha
  refine ⟨⟨Same.refl F, ⟨[], by simp⟩, fun b x e nb => by rw [upd_ne (show b ≠ a from fun z => nb (by rw [z]; exact mem))]; exact e, fun b h1 n => absurd h1 n, fun a x e k => by rw [k] at e; cases e⟩, ?_, by simp [R.len], R.nd, fun b hb => ?_, fun j b mo' h1 h2 => ?_⟩
  · intro b x e
    rw [upd_ne (ne_of_none e nF)]; exact R.sub b x e
  · by_cases z : b = a
    · subst z; exact ⟨o, upd_same⟩
    · obtain ⟨x, e⟩ := R.tr b hb
      exact ⟨x, by rw [upd_ne z]; exact e⟩
  · by_cases hj : k = j
    · subst hj
      rw [ha] at h1; cases h1
      rw [List.getElem?_set_self hk] at h2; cases h2
      exact .inr ⟨nF, o, upd_same, h⟩
    · rw [List.getElem?_set_ne hj] at h2
      rcases R.at_ j b mo' h1 h2 with z | ⟨z1, x, z2, z3⟩
      · exact .inl z
      · have nb : b ≠ a := fun z => by
          subst z
          exact hj ((List.getElem?_inj (List.getElem?_eq_some_iff.mp ha).1 R.nd).mp (ha.trans h1.symm))
        exact .inr ⟨z1, x, by rw [upd_ne nb]; exact z2, z3⟩
/-- a cell whose parts are data becomes data for good -/
theorem Rep.freeze {F H : Hp} {ι : List Addr} {M : MS} (R : Rep F H ι M) {k : Nat} {a : Addr} {o : HO} {m0 : MO} (ha : ι[k]? = some a) (hm : M[k]? = some m0) (hg : m0 ≠ .gone) (ho : H a = some o) :
    Ext F ι H (upd F a o) ι H ∧ Rep (upd F a o) H ι (M.set k .gone) := by
  have hk : k < M.length := (List.getElem?_eq_some_iff.mp hm).1
  obtain ⟨nF, _⟩ : F a = none ∧ ∃ o, H a = some o ∧ MOk F ι m0 o := (R.at_ k a m0 ha hm).resolve_left hg
  have sF : Same F (upd F a o) := fun b x e => by
    rw [upd_ne (ne_of_none e nF)]; exact e
  refine ⟨⟨sF, ⟨[], by simp⟩, fun _ _ e _ => e, fun b h1 n => absurd h1 n, fun b x e k => .inr (by
    by_cases z : b = a
    · rw [z]; exact List.mem_of_getElem? ha
    · rw [upd_ne z, k] at e; cases e)⟩, ?_, by simp [R.len], R.nd, R.tr, fun j b mo' h1 h2 => ?_⟩
  · intro b x e
    by_cases hb : b = a
    · subst hb; rw [upd_same] at e; cases e; exact ho
    · rw [upd_ne hb] at e; exact R.sub b x e
  · by_cases hj : k = j
    · subst hj
      rw [List.getElem?_set_self hk] at h2; cases h2
      exact .inl rfl
    · rw [List.getElem?_set_ne hj] at h2
      rcases R.at_ j b mo' h1 h2 with z | ⟨z1, x, z2, z3⟩
      · exact .inl z
      · have nb : b ≠ a := fun z => by
          subst z
          exact hj ((List.getElem?_inj (List.getElem?_eq_some_iff.mp ha).1 R.nd).mp (ha.trans h1.symm))
        exact .inr ⟨by rw [upd_ne nb]; exact z1, x, z2, z3.up sF ⟨[], by simp⟩⟩

/-! ### the judgements -/
def ZE (X : Cx) (e : Expr) (Γ : GS) (M : MS) (Φ : W → MS → Prop) : Prop := ∀ F ι σ H, Rep F H ι M → Slots F ι σ Γ → wE X e σ H (Post F ι H Φ)
def ZT (X : Cx) (e : Expr) (Γ : GS) (M : MS) (Φ : Bool → MS → Prop) : Prop := ∀ F ι σ H, Rep F H ι M → Slots F ι σ Γ → wT X e σ H (PostT F ι H Φ)
def ZA (X : Cx) (es : List Expr) (Γ : GS) (M : MS) (Φ : List W → MS → Prop) : Prop := ∀ F ι σ H, Rep F H ι M → Slots F ι σ Γ → wA X es σ H (PostA F ι H Φ)
def ZG (X : Cx) (tg : Expr) (w : W) (Γ : GS) (M : MS) (Φ : GS → MS → Prop) : Prop := ∀ F ι σ H v, Rep F H ι M → Slots F ι σ Γ → RW F ι v w → wG X tg v σ H (PostG F ι H Φ)
structure ZD where
  nx : GS → MS → Prop
  rt : W → MS → Prop
  bk : GS → MS → Prop := fun _ _ => False
  ct : GS → MS → Prop := fun _ _ => False
def ZD.ends (D : ZD) (F : Hp) (ι : List Addr) (H : Hp) : Ends := { nx := PostG F ι H D.nx, rt := Post F ι H D.rt, bk := PostG F ι H D.bk, ct := PostG F ι H D.ct }
def ZS (X : Cx) (st : Stmt) (Γ : GS) (M : MS) (D : ZD) : Prop := ∀ F ι σ H, Rep F H ι M → Slots F ι σ Γ → wS X st (D.ends F ι H) σ H
def ZSs (X : Cx) (st : List Stmt) (Γ : GS) (M : MS) (D : ZD) : Prop := ∀ F ι σ H, Rep F H ι M → Slots F ι σ Γ → wSs X st (D.ends F ι H) σ H
theorem ends_ext {F F1 H H1 : Hp} {ι ι1 : List Addr} (x : Ext F ι H F1 ι1 H1) (D : ZD) : Ends.Le (D.ends F1 ι1 H1) (D.ends F ι H) :=
  ⟨fun _ _ h => PostG.ext x h, fun _ _ h => Post.ext x h, fun _ _ h => PostG.ext x h, fun _ _ h => PostG.ext x h⟩
section
variable {X : Cx} {e : Expr} {Γ : GS} {M : MS}
theorem ZE.mono {Φ Φ' : W → MS → Prop} (h : ZE X e Γ M Φ) (k : ∀ w M', Φ w M' → Φ' w M') : ZE X e Γ M Φ' := fun F ι σ H R S =>
  wE.mono (h F ι σ H R S) fun _ _ ⟨F', ι', M', w, a, b, c, d⟩ => ⟨F', ι', M', w, a, b, c, k w M' d⟩
theorem ZT.mono {Φ Φ' : Bool → MS → Prop} (h : ZT X e Γ M Φ) (k : ∀ w M', Φ w M' → Φ' w M') : ZT X e Γ M Φ' := fun F ι σ H R S =>
  wT.mono (h F ι σ H R S) fun _ _ ⟨F', ι', M', a, b, d⟩ => ⟨F', ι', M', a, b, k _ M' d⟩
end
end Z

/-! Z2: the rules of expressions over plain data. -/
namespace Z
open PySem PySem.Spec PyProof.Rows L2
section
variable {X : Cx} {a b e : Expr} {es : List Expr} {pos : Pos} {Γ : GS} {M : MS} {Φ : W → MS → Prop}

/-! ### glue -/
theorem z1 {r : V → Hp → VK → Prop} {Ψ : W → MS → Prop} (pe : PE X e (fun σ H Q => wE X a σ H fun x H1 => r x H1 Q)) (h : ZE X a Γ M Ψ)
    (hr : ∀ F ι H M v x Q, Rep F H ι M → RW F ι v x → Ψ x M → (∀ z H', Post F ι H Φ z H' → Q z H') → r v H Q) : ZE X e Γ M Φ := fun F ι σ H R S => by
  refine w_e pe ((h F ι σ H R S).mono ?_)
  rintro v H1 ⟨F1, ι1, M1, x, E1, R1, rx, ψ⟩
  exact hr F1 ι1 H1 M1 v x _ R1 rx ψ fun z H' p => Post.ext E1 p
theorem z2 {r : R2} {Ψ : W → W → MS → Prop} (pe : PE X e (tOp r (wE X a) (wE X b))) (h : ZE X a Γ M fun x M1 => ZE X b Γ M1 fun y M2 => Ψ x y M2)
    (hr : ∀ F ι H M v u x y Q, Rep F H ι M → RW F ι v x → RW F ι u y → Ψ x y M → (∀ z H', Post F ι H Φ z H' → Q z H') → r v u H Q) : ZE X e Γ M Φ := fun F ι σ H R S => by
  refine w_e pe ((h F ι σ H R S).mono ?_)
  rintro v H1 ⟨F1, ι1, M1, x, E1, R1, rx, hb⟩
  refine (hb F1 ι1 σ H1 R1 (E1.slots S)).mono ?_
  rintro u H2 ⟨F2, ι2, M2, y, E2, R2, ry, ψ⟩
  exact hr F2 ι2 H2 M2 v u x y _ R2 (E2.rw rx) ry ψ fun z H' p => Post.ext (E1.trans E2) p
theorem za {r : List V → Hp → VK → Prop} {Ψ : List W → MS → Prop} (pe : PE X e (fun σ H Q => wA X es σ H fun x H1 => r x H1 Q)) (h : ZA X es Γ M Ψ)
    (hr : ∀ F ι H M vs xs Q, Rep F H ι M → RWs F ι vs xs → Ψ xs M → (∀ z H', Post F ι H Φ z H' → Q z H') → r vs H Q) : ZE X e Γ M Φ := fun F ι σ H R S => by
  refine w_e pe ((h F ι σ H R S).mono ?_)
  rintro v H1 ⟨F1, ι1, M1, x, E1, R1, rx, ψ⟩
  exact hr F1 ι1 H1 M1 v x _ R1 rx ψ fun z H' p => Post.ext E1 p
theorem za_nil {Φ : List W → MS → Prop} (h : Φ [] M) : ZA X [] Γ M Φ := fun F ι σ H R S => w_a pa_nil ⟨F, ι, M, [], Ext.refl F ι H, R, .nil, h⟩
theorem za_cons {Φ : List W → MS → Prop} (h : ZE X e Γ M fun x M1 => ZA X es Γ M1 fun xs M2 => Φ (x :: xs) M2) (hs : starEach (e :: es) X.env = (false, eval e X.env) :: starEach es X.env := by rfl) : ZA X (e :: es) Γ M Φ := fun F ι σ H R S => by
  refine w_a (pa_cons pe_w pa_w hs) ((h F ι σ H R S).mono ?_)
  rintro v H1 ⟨F1, ι1, M1, x, E1, R1, rx, hb⟩
  refine (hb F1 ι1 σ H1 R1 (E1.slots S)).mono ?_
  rintro u H2 ⟨F2, ι2, M2, y, E2, R2, ry, ψ⟩
  exact ⟨F2, ι2, M2, x :: y, E1.trans E2, R2, .cons (E2.rw rx) ry, ψ⟩

/-! ### names, constants -/
theorem ze_name (i : Nat) {x : Str} {w : W} (hg : Γ[i]? = some (some w)) (h : Φ w M) (hN : X.N[i]? = some x := by rfl) (hv : Vis X.env.scope x := by first | exact Or.inl rfl | exact Or.inr (Or.inl rfl) | exact Or.inr (Or.inr rfl))
    (hd : (x == ("__debug__" : Str)) = false := by decide) (hcd : (x == ("__classdict__" : Str)) = false := by decide) : ZE X (.Name x pos) Γ M Φ := fun F ι σ H R S => by
  obtain ⟨v, e1, r⟩ := S.get i w hg
  exact w_e (pe_var hN hv hd hcd) ⟨v, e1, Post.ret R r h⟩
theorem ze_int {i : Int} {j} (h : Φ (.d (.int i)) M) : ZE X (.Constant (.int i) j pos) Γ M Φ := fun F ι σ H R S => w_e pe_int (Post.dat R (At.int i) h)
theorem ze_str {i : Str} {j} (h : Φ (.d (.str i)) M) : ZE X (.Constant (.str i) j pos) Γ M Φ := fun F ι σ H R S => w_e pe_str (Post.dat R (At.str i) h)
theorem ze_bl {i : Bool} {j} (h : Φ (.d (.bool i)) M) : ZE X (.Constant (.bool i) j pos) Γ M Φ := fun F ι σ H R S => w_e pe_bl (Post.dat R (At.bl i) h)
theorem ze_non {j} (h : Φ (.d .none) M) : ZE X (.Constant .none j pos) Γ M Φ := fun F ι σ H R S => w_e pe_non (Post.dat R At.non h)

/-! ### arithmetic -/
theorem ze_arith {op : Operator} {C : Int → Int → Prop} {g : Int → Int → Int} (ho : OpR X (binaryOp op) (rI C fun i j => .int (g i j)))
    (h : ZE X a Γ M fun x M1 => ZE X b Γ M1 fun y M2 => ∃ i j, x = .d (.int i) ∧ y = .d (.int j) ∧ C i j ∧ Φ (.d (.int (g i j))) M2) : ZE X (.BinOp a op b pos) Γ M Φ :=
  z2 (pe_op ho pe_w pe_w) h fun F ι H M v u x y Q R rx ry ψ hQ => by
    obtain ⟨i, j, rfl, rfl, c, φ⟩ := ψ
    exact ⟨i, j, At.int_ rx, At.int_ ry, c, hQ _ _ (Post.dat R (At.int _) φ)⟩
theorem ze_arith0 {op : Operator} {g : Int → Int → Int} (ho : OpR X (binaryOp op) (rI0 fun i j => .int (g i j)))
    (h : ZE X a Γ M fun x M1 => ZE X b Γ M1 fun y M2 => ∃ i j, x = .d (.int i) ∧ y = .d (.int j) ∧ Φ (.d (.int (g i j))) M2) : ZE X (.BinOp a op b pos) Γ M Φ :=
  z2 (pe_op ho pe_w pe_w) h fun F ι H M v u x y Q R rx ry ψ hQ => by
    obtain ⟨i, j, rfl, rfl, φ⟩ := ψ
    exact ⟨i, j, At.int_ rx, At.int_ ry, hQ _ _ (Post.dat R (At.int _) φ)⟩
theorem ze_sub (h : ZE X a Γ M fun x M1 => ZE X b Γ M1 fun y M2 => ∃ i j, x = .d (.int i) ∧ y = .d (.int j) ∧ Φ (.d (.int (i - j))) M2) : ZE X (.BinOp a .Sub b pos) Γ M Φ := ze_arith0 op_sub h
theorem ze_mul (h : ZE X a Γ M fun x M1 => ZE X b Γ M1 fun y M2 => ∃ i j, x = .d (.int i) ∧ y = .d (.int j) ∧ CMul i j ∧ Φ (.d (.int (i * j))) M2) : ZE X (.BinOp a .Mult b pos) Γ M Φ := ze_arith op_mul h
theorem ze_mod (h : ZE X a Γ M fun x M1 => ZE X b Γ M1 fun y M2 => ∃ i j, x = .d (.int i) ∧ y = .d (.int j) ∧ 0 < j ∧ Φ (.d (.int (i % j))) M2) : ZE X (.BinOp a .Mod b pos) Γ M Φ := ze_arith op_mod h
theorem ze_fdiv (h : ZE X a Γ M fun x M1 => ZE X b Γ M1 fun y M2 => ∃ i j, x = .d (.int i) ∧ y = .d (.int j) ∧ CDiv i j ∧ Φ (.d (.int (i / j))) M2) : ZE X (.BinOp a .FloorDiv b pos) Γ M Φ := ze_arith op_fdiv h
theorem ze_pow (h : ZE X a Γ M fun x M1 => ZE X b Γ M1 fun y M2 => ∃ i j, x = .d (.int i) ∧ y = .d (.int j) ∧ CPow i j ∧ Φ (.d (.int (i ^ j.toNat))) M2) : ZE X (.BinOp a .Pow b pos) Γ M Φ := ze_arith op_pow h
/-- what x + y gives: numbers, texts, lists, tuples -/
def AddW (x y : W) (M : MS) (Φ : W → MS → Prop) : Prop :=
  (∃ i j, x = .d (.int i) ∧ y = .d (.int j) ∧ Φ (.d (.int (i + j))) M) ∨ (∃ i j, x = .d (.str i) ∧ y = .d (.str j) ∧ i.length + j.length ≤ sizeLine ∧ Φ (.d (.str (i ++ j))) M) ∨
  (∃ i j, x = .d (.list i) ∧ y = .d (.list j) ∧ i.length + j.length ≤ sizeLine ∧ Φ (.d (.list (i ++ j))) M) ∨ (∃ i j, x = .d (.tuple i) ∧ y = .d (.tuple j) ∧ i.length + j.length ≤ sizeLine ∧ Φ (.d (.tuple (i ++ j))) M)
theorem AddW.int {i j : Int} (h : Φ (.d (.int (i + j))) M) : AddW (.d (.int i)) (.d (.int j)) M Φ := .inl ⟨i, j, rfl, rfl, h⟩
theorem AddW.str {i j : Str} (z : i.length + j.length ≤ sizeLine) (h : Φ (.d (.str (i ++ j))) M) : AddW (.d (.str i)) (.d (.str j)) M Φ := .inr (.inl ⟨i, j, rfl, rfl, z, h⟩)
theorem AddW.list {i j : List PyData} (z : i.length + j.length ≤ sizeLine) (h : Φ (.d (.list (i ++ j))) M) : AddW (.d (.list i)) (.d (.list j)) M Φ := .inr (.inr (.inl ⟨i, j, rfl, rfl, z, h⟩))
theorem AddW.tuple {i j : List PyData} (z : i.length + j.length ≤ sizeLine) (h : Φ (.d (.tuple (i ++ j))) M) : AddW (.d (.tuple i)) (.d (.tuple j)) M Φ := .inr (.inr (.inr ⟨i, j, rfl, rfl, z, h⟩))
theorem lay_lst {F : Hp} {ι : List Addr} {H : Hp} {Q : VK} {vs : List V} {ds : List PyData} (R : Rep F H ι M) (r : AtAll F vs ds) (φ : Φ (.d (.list ds)) M) (hQ : ∀ z H', Post F ι H Φ z H' → Q z H') (p : Addr) (n : H p = none) : Q (.ref p) (upd H p (.lst vs)) := by
  obtain ⟨E, R'⟩ := R.lay (o := .lst vs) n
  exact hQ _ _ (Post.ext E (Post.ret R' (show RW _ _ _ (.d _) from .lst upd_same (r.up E.same)) φ))
theorem lay_tup {F : Hp} {ι : List Addr} {H : Hp} {Q : VK} {vs : List V} {ds : List PyData} (R : Rep F H ι M) (r : AtAll F vs ds) (φ : Φ (.d (.tuple ds)) M) (hQ : ∀ z H', Post F ι H Φ z H' → Q z H') (p : Addr) (n : H p = none) : Q (.ref p) (upd H p (.tup vs)) := by
  obtain ⟨E, R'⟩ := R.lay (o := .tup vs) n
  exact hQ _ _ (Post.ext E (Post.ret R' (show RW _ _ _ (.d _) from .tup upd_same (r.up E.same)) φ))
theorem ze_add (h : ZE X a Γ M fun x M1 => ZE X b Γ M1 fun y M2 => AddW x y M2 Φ) : ZE X (.BinOp a .Add b pos) Γ M Φ :=
  z2 (pe_op (op_add.or (op_add_str.or (op_cat.or op_catA))) pe_w pe_w) h fun F ι H M v u x y Q R rx ry ψ hQ => by
    rcases ψ with ⟨i, j, rfl, rfl, φ⟩ | ⟨i, j, rfl, rfl, z, φ⟩ | ⟨i, j, rfl, rfl, z, φ⟩ | ⟨i, j, rfl, rfl, z, φ⟩
    · exact .inl ⟨i, j, At.int_ rx, At.int_ ry, hQ _ _ (Post.dat R (At.int _) φ)⟩
    · exact .inr (.inl ⟨i, j, At.str_ rx, At.str_ ry, z, hQ _ _ (Post.dat R (At.str _) φ)⟩)
    · obtain ⟨p, vs, rfl, f1, r1⟩ := At.lst_ rx
      obtain ⟨q, us, rfl, f2, r2⟩ := At.lst_ ry
      exact .inr (.inr (.inl ⟨p, q, vs, us, rfl, rfl, R.sub _ _ f1, R.sub _ _ f2, by rw [r1.len, r2.len]; exact z, lay_lst R (r1.app r2) φ hQ⟩))
    · obtain ⟨p, vs, rfl, f1, r1⟩ := At.tup_ rx
      obtain ⟨q, us, rfl, f2, r2⟩ := At.tup_ ry
      refine .inr (.inr (.inr ⟨p, q, vs, us, rfl, rfl, .of (R.sub _ _ f1), .of (R.sub _ _ f2), by rw [r1.len, r2.len]; exact z, fun e => ?_, fun _ e => ?_, fun _ _ => lay_tup R (r1.app r2) φ hQ⟩))
      · subst e
        cases r1
        exact hQ _ _ (Post.ret R (show RW F ι (.ref q) (.d (.tuple j)) from .tup f2 r2) (by simpa using φ))
      · subst e
        cases r2
        exact hQ _ _ (Post.ret R (show RW F ι (.ref p) (.d (.tuple i)) from .tup f1 r1) (by simpa using φ))
theorem ze_neg (h : ZE X a Γ M fun x M1 => ∃ i, x = .d (.int i) ∧ Φ (.d (.int (-i))) M1) : ZE X (.UnaryOp .USub a pos) Γ M Φ :=
  z1 (pe_un un_neg pe_w) h fun F ι H M v x Q R rx ψ hQ => by
    obtain ⟨i, rfl, φ⟩ := ψ
    exact ⟨i, At.int_ rx, hQ _ _ (Post.dat R (At.int _) φ)⟩

/-! ### comparisons: as values and as tests -/
def wC (X : Cx) (op : CmpOp) (a b : Expr) : TE := fun σ H Q => ∀ pins s, Inv X pins σ H s →
  wpAny (model X.prog X.w) X.A (eval a X.env) (fun v s1 => wpAny (model X.prog X.w) X.A (eval b X.env) (fun u s2 => wpAny (model X.prog X.w) X.A (compareOp op v u) (EP X pins σ Q) X.xe s2) X.xe s1) X.xe s
def ZC (X : Cx) (op : CmpOp) (a b : Expr) (Γ : GS) (M : MS) (Φ : W → MS → Prop) : Prop := ∀ F ι σ H, Rep F H ι M → Slots F ι σ Γ → wC X op a b σ H (Post F ι H Φ)
theorem pc_w {op : CmpOp} : PC X op a b (wC X op a b) := ⟨fun pins s _ _ _ I h => h pins s I⟩
theorem ze_cmp {op : CmpOp} (h : ZC X op a b Γ M Φ) (h1 : behindInMarks op b = false := by first | exact nobehind _ (by decide) (by decide) | rfl) : ZE X (.Compare a [op] [b] pos) Γ M Φ :=
  fun F ι σ H R S => w_e (pe_cmp pc_w h1) (h F ι σ H R S)
def TB (Φ : Bool → MS → Prop) : W → MS → Prop := fun w M => ∃ c, w = .d (.bool c) ∧ Φ c M
theorem post_tb {F : Hp} {ι : List Addr} {H H' : Hp} {Φ : Bool → MS → Prop} {v : V} (h : Post F ι H (TB Φ) v H') : ∃ c, v = .bl c ∧ PostT F ι H Φ c H' := by
  obtain ⟨F', ι', M', w, E, R, r, c, rfl, φ⟩ := h
  exact ⟨c, At.bl_ r, F', ι', M', E, R, φ⟩
theorem wC.mono {op : CmpOp} {σ : St} {H : Hp} {Q Q' : VK} (h : wC X op a b σ H Q) (k : ∀ v H', Q v H' → Q' v H') : wC X op a b σ H Q' := fun pins s I =>
  thn (h pins s I) fun _ _ q1 => thn q1 fun _ _ q2 => thn q2 fun _ _ ⟨v, H', I', r, q⟩ => ⟨v, H', I', r, k v H' q⟩
theorem zt_cmp {op : CmpOp} {Φ : Bool → MS → Prop} (h : ZC X op a b Γ M (TB Φ)) (h1 : behindInMarks op b = false := by first | exact nobehind _ (by decide) (by decide) | rfl) : ZT X (.Compare a [op] [b] pos) Γ M Φ :=
  fun F ι σ H R S => w_t (pt_cmp pc_w h1) ((h F ι σ H R S).mono fun v H' p => post_tb p)
/-- any other expression that gives a truth -/
theorem zt_val {Φ : Bool → MS → Prop} (h : ZE X e Γ M (TB Φ)) (he : ∀ whole, isTrue e X.env whole = (do let v ← whole; standAt e.pos; holding [v] (truthy v)) := by intro _; rfl) : ZT X e Γ M Φ :=
  fun F ι σ H R S => w_t (pt_val pe_w he) ((h F ι σ H R S).mono fun v H' p => post_tb p)
theorem zc {op : CmpOp} {r : R2} {Ψ : W → W → MS → Prop} (ho : OpR X (compareOp op) r) (h : ZE X a Γ M fun x M1 => ZE X b Γ M1 fun y M2 => Ψ x y M2)
    (hr : ∀ F ι H M v u x y Q, Rep F H ι M → RW F ι v x → RW F ι u y → Ψ x y M → (∀ z H', Post F ι H Φ z H' → Q z H') → r v u H Q) : ZC X op a b Γ M Φ := fun F ι σ H R S pins s I => by
  refine thn (h F ι σ H R S pins s I) ?_
  rintro v s1 ⟨v', H1, I1, r1, F1, ι1, M1, x, E1, R1, rx, hb⟩
  refine thn (hb F1 ι1 σ H1 R1 (E1.slots S) pins s1 I1) ?_
  rintro u s2 ⟨u', H2, I2, r2, F2, ι2, M2, y, E2, R2, ry, ψ⟩
  exact ho pins s2 σ H2 v' u' v u _ I2 r1 r2 (hr F2 ι2 H2 M2 v' u' x y _ R2 (E2.rw rx) ry ψ fun z H' p => Post.ext (E1.trans E2) p)
theorem zc_int {op : CmpOp} {g : Int → Int → Bool} (ho : OpR X (compareOp op) (rI0 fun i j => .bl (g i j)))
    (h : ZE X a Γ M fun x M1 => ZE X b Γ M1 fun y M2 => ∃ i j, x = .d (.int i) ∧ y = .d (.int j) ∧ Φ (.d (.bool (g i j))) M2) : ZC X op a b Γ M Φ :=
  zc ho h fun F ι H M v u x y Q R rx ry ψ hQ => by
    obtain ⟨i, j, rfl, rfl, φ⟩ := ψ
    exact ⟨i, j, At.int_ rx, At.int_ ry, hQ _ _ (Post.dat R (At.bl _) φ)⟩
theorem zc_lt (h : ZE X a Γ M fun x M1 => ZE X b Γ M1 fun y M2 => ∃ i j, x = .d (.int i) ∧ y = .d (.int j) ∧ Φ (.d (.bool (decide (i < j)))) M2) : ZC X .Lt a b Γ M Φ := zc_int op_lt h
theorem zc_le (h : ZE X a Γ M fun x M1 => ZE X b Γ M1 fun y M2 => ∃ i j, x = .d (.int i) ∧ y = .d (.int j) ∧ Φ (.d (.bool (decide (i ≤ j)))) M2) : ZC X .LtE a b Γ M Φ := zc_int op_le h
theorem zc_gt (h : ZE X a Γ M fun x M1 => ZE X b Γ M1 fun y M2 => ∃ i j, x = .d (.int i) ∧ y = .d (.int j) ∧ Φ (.d (.bool (decide (j < i)))) M2) : ZC X .Gt a b Γ M Φ := zc_int op_gt h
theorem zc_ge (h : ZE X a Γ M fun x M1 => ZE X b Γ M1 fun y M2 => ∃ i j, x = .d (.int i) ∧ y = .d (.int j) ∧ Φ (.d (.bool (decide (j ≤ i)))) M2) : ZC X .GtE a b Γ M Φ := zc_int op_ge h
def isN : W → Bool
  | .d .none => true
  | _ => false
theorem isN_ok {F : Hp} {ι : List Addr} {v : V} {x : W} (r : RW F ι v x) : decide (v = .non) = isN x := by
  cases x with
  | m k => obtain ⟨a, _, rfl⟩ := r; rfl
  | d y => cases r <;> rfl
theorem zc_isN (h : ZE X a Γ M fun x M1 => Φ (.d (.bool (isN x))) M1) {j pos'} : ZC X .Is a (.Constant .none j pos') Γ M Φ :=
  zc op_isN (Ψ := fun x y M => y = .d .none ∧ Φ (.d (.bool (isN x))) M) (h.mono fun x M1 φ => ze_non ⟨rfl, φ⟩) fun F ι H M v u x y Q R rx ry ψ hQ => by
    obtain ⟨rfl, φ⟩ := ψ
    exact ⟨At.non_ ry, hQ _ _ (Post.dat R (by rw [isN_ok rx]; exact At.bl _) φ)⟩
theorem zc_notN (h : ZE X a Γ M fun x M1 => Φ (.d (.bool (!isN x))) M1) {j pos'} : ZC X .IsNot a (.Constant .none j pos') Γ M Φ :=
  zc op_notN (Ψ := fun x y M => y = .d .none ∧ Φ (.d (.bool (!isN x))) M) (h.mono fun x M1 φ => ze_non ⟨rfl, φ⟩) fun F ι H M v u x y Q R rx ry ψ hQ => by
    obtain ⟨rfl, φ⟩ := ψ
    exact ⟨At.non_ ry, hQ _ _ (Post.dat R (by rw [isN_ok rx]; exact At.bl _) φ)⟩

/-! ### and, or, not, if -/
section
variable {rest : List Expr} {c : Expr} {ΦB : Bool → MS → Prop}
def wW (X : Cx) (e : Expr) : TT := fun σ H Q => ∀ whole pins s, Inv X pins σ H s → wpAny (model X.prog X.w) X.A (isTrue e X.env whole) (TP X pins σ Q) X.xe s
theorem pw_w : PW X e (wW X e) := ⟨fun whole pins s _ _ _ I h => h whole pins s I⟩
def ZW (X : Cx) (e : Expr) (Γ : GS) (M : MS) (Φ : Bool → MS → Prop) : Prop := ∀ F ι σ H, Rep F H ι M → Slots F ι σ Γ → wW X e σ H (PostT F ι H Φ)
theorem w_w {t : TT} {σ : St} {H : Hp} {Q : Bool → Hp → Prop} (h : PW X e t) (q : t σ H Q) : wW X e σ H Q := fun whole pins s I => h.run whole pins s σ H Q I q
theorem wW.mono {σ : St} {H : Hp} {Q Q' : Bool → Hp → Prop} (h : wW X e σ H Q) (k : ∀ b H', Q b H' → Q' b H') : wW X e σ H Q' := fun whole pins s I =>
  thn (h whole pins s I) fun _ _ ⟨H', I', q⟩ => ⟨H', I', k _ H' q⟩
theorem zt_w (h : ZW X e Γ M ΦB) : ZT X e Γ M ΦB := fun F ι σ H R S => w_t (PW.pt pw_w) (h F ι σ H R S)
theorem zw_and1 (h : ZT X a Γ M ΦB) : ZW X (.BoolOp .And [a] pos) Γ M ΦB := fun F ι σ H R S => w_w (pw_and1 pt_w) (h F ι σ H R S)
theorem zw_or1 (h : ZT X a Γ M ΦB) : ZW X (.BoolOp .Or [a] pos) Γ M ΦB := fun F ι σ H R S => w_w (pw_or1 pt_w) (h F ι σ H R S)
theorem zw_and (h : ZT X a Γ M fun c M1 => if c = true then ZW X (.BoolOp .And (b :: rest) pos) Γ M1 ΦB else ΦB false M1) : ZW X (.BoolOp .And (a :: b :: rest) pos) Γ M ΦB := fun F ι σ H R S => by
  refine w_w (pw_and pt_w pw_w) ((h F ι σ H R S).mono ?_)
  rintro c H1 ⟨F1, ι1, M1, E1, R1, q⟩
  cases c with
  | true => exact (q F1 ι1 σ H1 R1 (E1.slots S)).mono fun _ _ p => PostT.ext E1 p
  | false => exact ⟨F1, ι1, M1, E1, R1, q⟩
theorem zw_or (h : ZT X a Γ M fun c M1 => if c = true then ΦB true M1 else ZW X (.BoolOp .Or (b :: rest) pos) Γ M1 ΦB) : ZW X (.BoolOp .Or (a :: b :: rest) pos) Γ M ΦB := fun F ι σ H R S => by
  refine w_w (pw_or pt_w pw_w) ((h F ι σ H R S).mono ?_)
  rintro c H1 ⟨F1, ι1, M1, E1, R1, q⟩
  cases c with
  | false => exact (q F1 ι1 σ H1 R1 (E1.slots S)).mono fun _ _ p => PostT.ext E1 p
  | true => exact ⟨F1, ι1, M1, E1, R1, q⟩
theorem zt_not (h : ZT X a Γ M fun c M1 => ΦB (!c) M1) : ZT X (.UnaryOp .Not a pos) Γ M ΦB := fun F ι σ H R S => by
  refine w_t (pt_not pt_w) ((h F ι σ H R S).mono ?_)
  rintro c H1 ⟨F1, ι1, M1, E1, R1, q⟩
  exact ⟨F1, ι1, M1, E1, R1, q⟩
theorem ze_one {op} (h : ZE X a Γ M Φ) : ZE X (.BoolOp op [a] pos) Γ M Φ := fun F ι σ H R S => w_e (pe_one pe_w) (h F ι σ H R S)
theorem ze_and (h : ZE X a Γ M (TB fun c M1 => if c = true then ZE X (.BoolOp .And (b :: rest) pos) Γ M1 Φ else Φ (.d (.bool false)) M1)) : ZE X (.BoolOp .And (a :: b :: rest) pos) Γ M Φ := fun F ι σ H R S => by
  refine w_e (pe_and pe_w pe_w) ((h F ι σ H R S).mono ?_)
  rintro v H1 ⟨F1, ι1, M1, w, E1, R1, rw', c, rfl, q⟩
  refine ⟨c, At.bl_ rw', ?_⟩
  cases c with
  | true => exact (q F1 ι1 σ H1 R1 (E1.slots S)).mono fun _ _ p => Post.ext E1 p
  | false => exact ⟨F1, ι1, M1, _, E1, R1, (show RW _ _ _ (.d (.bool false)) from At.bl false), q⟩
theorem ze_or (h : ZE X a Γ M (TB fun c M1 => if c = true then Φ (.d (.bool true)) M1 else ZE X (.BoolOp .Or (b :: rest) pos) Γ M1 Φ)) : ZE X (.BoolOp .Or (a :: b :: rest) pos) Γ M Φ := fun F ι σ H R S => by
  refine w_e (pe_or pe_w pe_w) ((h F ι σ H R S).mono ?_)
  rintro v H1 ⟨F1, ι1, M1, w, E1, R1, rw', c, rfl, q⟩
  refine ⟨c, At.bl_ rw', ?_⟩
  cases c with
  | false => exact (q F1 ι1 σ H1 R1 (E1.slots S)).mono fun _ _ p => Post.ext E1 p
  | true => exact ⟨F1, ι1, M1, _, E1, R1, (show RW _ _ _ (.d (.bool true)) from At.bl true), q⟩
theorem ze_not (h : ZE X a Γ M (TB fun c M1 => Φ (.d (.bool (!c))) M1)) : ZE X (.UnaryOp .Not a pos) Γ M Φ := fun F ι σ H R S => by
  refine w_e (pe_not pe_w) ((h F ι σ H R S).mono ?_)
  rintro v H1 ⟨F1, ι1, M1, w, E1, R1, rw', c, rfl, q⟩
  exact ⟨c, At.bl_ rw', F1, ι1, M1, _, E1, R1, (show RW _ _ _ (.d (.bool (!c))) from At.bl _), q⟩
theorem ze_if (h : ZT X c Γ M fun k M1 => if k = true then ZE X a Γ M1 Φ else ZE X b Γ M1 Φ) : ZE X (.IfExp c a b pos) Γ M Φ := fun F ι σ H R S => by
  refine w_e (pe_ifExp pt_w pe_w pe_w) ((h F ι σ H R S).mono ?_)
  rintro k H1 ⟨F1, ι1, M1, E1, R1, q⟩
  cases k with
  | true => exact (show ZE X a Γ M1 Φ from q) F1 ι1 σ H1 R1 (E1.slots S) |>.mono fun _ _ p => Post.ext E1 p
  | false => exact (show ZE X b Γ M1 Φ from q) F1 ι1 σ H1 R1 (E1.slots S) |>.mono fun _ _ p => Post.ext E1 p
end

/-! ### displays -/
theorem RWs.dat {F : Hp} {ι : List Addr} : ∀ {vs : List V} {ds : List PyData}, RWs F ι vs (ds.map .d) → AtAll F vs ds
  | _, [], h => by cases h; exact .nil
  | _, d :: ds, h => by cases h with | cons a b => exact .cons a (RWs.dat b)
theorem RWs.of {F : Hp} {ι : List Addr} : ∀ {vs : List V} {ds : List PyData}, AtAll F vs ds → RWs F ι vs (ds.map .d)
  | _, _, .nil => .nil
  | _, _, .cons a b => .cons a (RWs.of b)
theorem ze_tup {k} (h : ZA X es Γ M fun ws M1 => ∃ ds, ws = ds.map .d ∧ ds.length ≤ sizeLine ∧ Φ (.d (.tuple ds)) M1) : ZE X (.Tuple es k pos) Γ M Φ :=
  za (pe_tup pa_w) h fun F ι H M vs xs Q R r ψ hQ => by
    obtain ⟨ds, rfl, z, φ⟩ := ψ
    exact ⟨by rw [(RWs.dat r).len]; exact z, lay_tup R (RWs.dat r) φ hQ⟩
/-- a list that is never changed -/
theorem ze_lst (h : ZA X es Γ M fun ws M1 => ∃ ds, ws = ds.map .d ∧ ds.length ≤ sizeLine ∧ Φ (.d (.list ds)) M1) : ZE X (.List es pos) Γ M Φ :=
  za (pe_lst pa_w) h fun F ι H M vs xs Q R r ψ hQ => by
    obtain ⟨ds, rfl, z, φ⟩ := ψ
    exact ⟨by rw [(RWs.dat r).len]; exact z, lay_lst R (RWs.dat r) φ hQ⟩
theorem RWs.len {F : Hp} {ι : List Addr} {vs : List V} {ws : List W} (h : RWs F ι vs ws) : vs.length = ws.length := Paired.length h
/-- a list that is to be changed: a new cell -/
theorem ze_lstM (h : ZA X es Γ M fun ws M1 => ws.length ≤ sizeLine ∧ Φ (.m M1.length) (M1 ++ [.lst ws])) : ZE X (.List es pos) Γ M Φ :=
  za (pe_lst pa_w) h fun F ι H M vs xs Q R r ψ hQ => by
    obtain ⟨z, φ⟩ := ψ
    refine ⟨by rw [r.len]; exact z, fun p n => ?_⟩
    obtain ⟨E, R'⟩ := R.new (o := .lst vs) (mo := .lst xs) n ⟨vs, rfl, r⟩
    exact hQ _ _ (Post.ext E (Post.ret R' (RW.m (by rw [← R.len, List.getElem?_append_right (Nat.le_refl _)]; simp)) φ))
end
end Z

/-! Z3: data as the model reads it: ==, in, repr; the calls of built-in functions. -/
namespace Z
open PySem PySem.Spec PyProof.Rows L2

/-! ### room, and that nothing is being shown -/
structure RoomZ (k : Nat) (A : Around) : Prop where
  r : Room k A
  g : A.guards = some []
theorem RoomZ.mono {j k : Nat} {A : Around} (h : RoomZ k A) (l : j ≤ k) : RoomZ j A := ⟨h.r.mono l, h.g⟩
theorem RoomZ.deeper {k : Nat} {A : Around} (h : RoomZ (k + 1) A) (env : Env) : RoomZ k (A.deeper env) := ⟨h.r.deeper env, h.g⟩
theorem RoomZ.hu {k : Nat} {A : Around} (h : RoomZ k A) : A.units + 1 < cLine := hu_of h.r
theorem RoomZ.hu64 {k : Nat} {A : Around} (h : RoomZ k A) : A.units + 64 < cLine := h.r.units
theorem RoomZ.hu65 {k : Nat} {A : Around} (h : RoomZ k A) : A.units + 65 < cLine := by have := h.r.un; omega

/-! ### data as the model reads it -/
section
variable {X : Cx} {pins : List (Addr × Obj)} {σ : St} {H F : Hp} {s : Shared}
theorem keyD_reads {P : Program} {w : World} {h : Heap} {k : Key} {u : Value} (e : (mixKind P w).is k u = true) : Reads h u (keyD k) [] := by
  rcases keyIs_shape (k := k) (v := u) e with ⟨i, t, rfl, rfl⟩ | ⟨x, t, rfl, rfl⟩
  · exact Reads.int i t
  · exact Reads.str x t
theorem dict_parts {P : Program} {w : World} {kvs : List (Key × V)} {vs : List (Key × Value)} (r : KV kvs vs) : ∀ {es : List DictEntry}, Pairs (mixKind P w) es vs →
    (∀ (h : Heap) (ks : List PyData), ks = kvs.map (fun p => keyD p.1) → ReadsAll h (es.map (·.key)) ks []) ∧ Vals (kvs.map (·.2)) (es.map (·.val)) := by
  unfold KV at r
  induction r with
  | nil =>
    intro es p
    cases p
    exact ⟨fun h ks e => by subst e; exact .nil, .nil⟩
  | @cons p q ps qs hpq t ih =>
    intro es pr
    cases pr with
    | cons h1 h2 h3 =>
      obtain ⟨i1, i2⟩ := ih h3
      refine ⟨fun h ks e => ?_, .cons (by show RelV p.2 (DictEntry.val _); rw [h2]; exact hpq.2) i2⟩
      subst e
      exact .cons (as := []) (bs := []) (keyD_reads (h := h) (k := p.1) (by rw [hpq.1]; exact h1)) (i1 h _ rfl)
theorem AtKv.keys {F : Hp} : ∀ {kvs : List (Key × V)} {kds : List (PyData × PyData)}, AtKv F kvs kds → kds.map (·.1) = kvs.map fun p => keyD p.1
  | _, _, .nil => rfl
  | _, _, .cons _ b => by rw [List.map_cons, List.map_cons, b.keys]
theorem AtKv.vals {F : Hp} : ∀ {kvs : List (Key × V)} {kds : List (PyData × PyData)}, AtKv F kvs kds → AtAll F (kvs.map (·.2)) (kds.map (·.2))
  | _, _, .nil => .nil
  | _, _, .cons a b => .cons a b.vals
def Own (F : Hp) (as : List Addr) : Prop := ∀ a ∈ as, ∃ o, F a = some o
theorem Own.app {as bs : List Addr} (h : Own F as) (k : Own F bs) : Own F (as ++ bs) := fun a m => (List.mem_append.mp m).elim (h a) (k a)
theorem Own.nil : Own F [] := fun _ m => absurd m (by simp)
theorem Own.cons {a : Addr} {o : HO} {as : List Addr} (e : F a = some o) (h : Own F as) : Own F (a :: as) := fun b m => (List.mem_cons.mp m).elim (fun z => ⟨o, z ▸ e⟩) (h b)
mutual
theorem At.reads (I : Inv X pins σ H s) (sub : Same F H) : ∀ (d : PyData) (v : V) (u : Value), At F v d → RelV v u → ∃ as, Reads s.heap u d as ∧ Own F as
  | .none, _, _, h, r => by cases h; cases r; exact ⟨_, Reads.none, .nil⟩
  | .bool b, _, _, h, r => by cases h; cases r; exact ⟨_, Reads.bool b, .nil⟩
  | .int i, _, _, h, r => by cases h; obtain ⟨t, rfl⟩ := r; exact ⟨_, Reads.int i t, .nil⟩
  | .str x, _, _, h, r => by cases h; obtain ⟨t, rfl⟩ := r; exact ⟨_, Reads.str x t, .nil⟩
  | .list ds, _, _, h, r => by
    cases h with
    | lst hs ha =>
      cases r
      obtain ⟨its, rv, ⟨o, n, ho, hc, _, hd⟩, _⟩ := I.list (.of (sub _ _ hs))
      obtain ⟨as, hr, ow⟩ := At.readsAll I sub ds _ its ha rv
      exact ⟨_, Reads.list ho hc hd hr, .cons hs ow⟩
  | .tuple ds, _, _, h, r => by
    cases h with
    | tup hs ha =>
      cases r
      obtain ⟨its, rv, ⟨o, ho, hc, n, hd⟩, _⟩ := I.tuple (.of (sub _ _ hs))
      obtain ⟨as, hr, ow⟩ := At.readsAll I sub ds _ its ha rv
      exact ⟨_, Reads.tuple ho hc hd hr, ow⟩
  | .dict kds, _, _, h, r => by
    cases h with
    | dic hs ha =>
      cases r
      obtain ⟨_, _, vs, rel, o, es, ep, ho, hx, hd, _, hp, _⟩ := dk_of I.hok (sub _ _ hs)
      obtain ⟨k1, k2⟩ := dict_parts rel hp
      obtain ⟨bs, rb, ow⟩ := At.readsKv I sub kds _ _ ha k2
      exact ⟨_, Reads.dict ho hx.1 hd (k1 s.heap _ ha.keys) rb, .cons hs (.app .nil ow)⟩
theorem At.readsAll (I : Inv X pins σ H s) (sub : Same F H) : ∀ (ds : List PyData) (vs : List V) (us : List Value), AtAll F vs ds → Vals vs us → ∃ as, ReadsAll s.heap us ds as ∧ Own F as
  | [], _, _, h, r => by cases h; cases r; exact ⟨_, ReadsAll.nil, .nil⟩
  | d :: ds, _, _, h, r => by
    cases h with
    | cons h1 h2 =>
      cases r with
      | cons r1 r2 =>
        obtain ⟨as, q1, o1⟩ := At.reads I sub d _ _ h1 r1
        obtain ⟨bs, q2, o2⟩ := At.readsAll I sub ds _ _ h2 r2
        exact ⟨_, ReadsAll.cons q1 q2, o1.app o2⟩
theorem At.readsKv (I : Inv X pins σ H s) (sub : Same F H) : ∀ (kds : List (PyData × PyData)) (kvs : List (Key × V)) (us : List Value), AtKv F kvs kds → Vals (kvs.map (·.2)) us → ∃ as, ReadsAll s.heap us (kds.map (·.2)) as ∧ Own F as
  | [], _, _, h, r => by cases h; cases r; exact ⟨_, ReadsAll.nil, .nil⟩
  | (k, d) :: ds, _, _, h, r => by
    cases h with
    | cons h1 h2 =>
      cases r with
      | cons r1 r2 =>
        obtain ⟨as, q1, o1⟩ := At.reads I sub d _ _ h1 r1
        obtain ⟨bs, q2, o2⟩ := At.readsKv I sub ds _ _ h2 r2
        exact ⟨_, ReadsAll.cons q1 q2, o1.app o2⟩
end
/-- the region's addresses are none of the system's own dict of modules -/
theorem own_no (I : Inv X pins σ H s) (hs : ∃ o, X.base.get? sysModules = some o) (sub : Same F H) {as : List Addr} (ow : Own F as) : sysModules ∉ as := fun m => by
  obtain ⟨o, ho⟩ := hs
  obtain ⟨x, e⟩ := ow _ m
  have := (I.bs _ o ho).2
  rw [sub _ _ e] at this; cases this
end

/-! ### ==, in, repr by data -/
section
variable {X : Cx} {k : Nat}
def rEqZ : R2 := fun x y H Q => ∃ F d e, Same F H ∧ At F x d ∧ At F y e ∧ SeqAt.shaped d = true ∧ SeqAt.shaped e = true ∧ Q (.bl (PyData.eqv d e)) H
def rNeZ : R2 := fun x y H Q => ∃ F d e, Same F H ∧ At F x d ∧ At F y e ∧ SeqAt.shaped d = true ∧ SeqAt.shaped e = true ∧ Q (.bl (!PyData.eqv d e)) H
theorem op_eqZ (hr : RoomZ k X.A) : OpR X (compareOp .Eq) rEqZ := by
  intro pins s σ H x y v u Q I rx ry ⟨F, d, e, sub, hd, he, sd, se, q⟩
  obtain ⟨as, r1, _⟩ := At.reads I sub d x v hd rx
  obtain ⟨bs, r2, _⟩ := At.reads I sub e y u he ry
  exact SeqAt.compareEq_shaped r1 r2 sd se hr.hu64 ⟨.bl _, H, I, rfl, q⟩
theorem op_neZ (hr : RoomZ k X.A) : OpR X (compareOp .NotEq) rNeZ := by
  intro pins s σ H x y v u Q I rx ry ⟨F, d, e, sub, hd, he, sd, se, q⟩
  obtain ⟨as, r1, _⟩ := At.reads I sub d x v hd rx
  obtain ⟨bs, r2, _⟩ := At.reads I sub e y u he ry
  exact SeqAt.compareNe_shaped r1 r2 sd se hr.hu64 ⟨.bl _, H, I, rfl, q⟩
/-- y in a list or a tuple of data -/
def rInZ (neg : Bool) : R2 := fun x y H Q => ∃ F d es, Same F H ∧ At F x d ∧ (At F y (.list es) ∨ At F y (.tuple es)) ∧ SeqAt.shaped d = true ∧ PyData.canLayAll0 es = true ∧ Q (.bl (if neg then !(es.any fun z => PyData.eqv z d) else es.any fun z => PyData.eqv z d)) H
theorem op_inZ (hr : RoomZ k X.A) : OpR X (compareOp .In) (rInZ false) := by
  intro pins s σ H x y v u Q I rx ry ⟨F, d, es, sub, hd, he, sd, se, q⟩
  obtain ⟨as, r1, _⟩ := At.reads I sub d x v hd rx
  rcases he with he | he
  · obtain ⟨bs, r2, _⟩ := At.reads I sub _ y u he ry
    exact SeqAt.in_list_reads r2 r1 se (SeqAt.canLay_of_shaped sd) (room_in_shaped sd hr.hu65) ⟨.bl _, H, I, rfl, q⟩
  · obtain ⟨bs, r2, _⟩ := At.reads I sub _ y u he ry
    exact SeqAt.in_tuple_reads r2 r1 se (SeqAt.canLay_of_shaped sd) (room_in_shaped sd hr.hu65) ⟨.bl _, H, I, rfl, q⟩
theorem op_notInZ (hr : RoomZ k X.A) : OpR X (compareOp .NotIn) (rInZ true) := by
  intro pins s σ H x y v u Q I rx ry ⟨F, d, es, sub, hd, he, sd, se, q⟩
  obtain ⟨as, r1, _⟩ := At.reads I sub d x v hd rx
  rcases he with he | he
  · obtain ⟨bs, r2, _⟩ := At.reads I sub _ y u he ry
    exact SeqAt.notIn_list_reads r2 r1 se (SeqAt.canLay_of_shaped sd) (room_in_shaped sd hr.hu65) ⟨.bl _, H, I, rfl, q⟩
  · obtain ⟨bs, r2, _⟩ := At.reads I sub _ y u he ry
    exact SeqAt.notIn_tuple_reads r2 r1 se (SeqAt.canLay_of_shaped sd) (room_in_shaped sd hr.hu65) ⟨.bl _, H, I, rfl, q⟩
/-- y in a dict -/
def rInDk (neg : Bool) : R2 := fun y x H Q => ∃ a o, x = .ref a ∧ DGet H a y o ∧ Q (.bl (if neg then !o.isSome else o.isSome)) H
theorem op_inDk (hr : RoomZ k X.A) : OpR X (compareOp .In) (rInDk false) := by
  intro pins s σ H y x u v Q I ry rx ⟨a, o, e, g, q⟩
  subst e
  obtain rfl : v = Value.ref a := rx
  exact d_in hr.hu I g ry fun s' I' => ⟨.bl o.isSome, H, I', rfl, q⟩
theorem op_notInDk (hr : RoomZ k X.A) : OpR X (compareOp .NotIn) (rInDk true) := by
  intro pins s σ H y x u v Q I ry rx ⟨a, o, e, g, q⟩
  subst e
  obtain rfl : v = Value.ref a := rx
  exact d_notIn hr.hu I g ry fun s' I' => ⟨.bl (!o.isSome), H, I', rfl, q⟩
/-- repr of data -/
theorem call_repr (hr : RoomZ k X.A) (hs : ∃ o, X.base.get? sysModules = some o) : CallR X (.builtin "repr") (fun xs H Q => ∃ F v d, xs = [v] ∧ Same F H ∧ At F v d ∧ d.showable = true ∧ d.depth ≤ 60 ∧ d.shown.length ≤ sizeLine ∧ Q (.str d.shown) H) := by
  intro pins s σ H xs us Q I r ⟨F, v, d, e, sub, hd, hsh, hdp, hsz, q⟩
  subst e
  cases r with
  | cons ru rn =>
    rename_i u us
    cases rn
    obtain ⟨as, rd, ow⟩ := At.reads I sub d v u hd ru
    have fin : ∀ h' tk, (∀ b o, s.heap.get? b = some o → h'.get? b = some o) → ∀ t, EP X pins σ Q (.str d.shown t) { s with heap := h', toks := tk } := fun h' tk kk t => ⟨.str d.shown, H, I.kept kk, ⟨t, rfl⟩, q⟩
    have big : ∀ a, u = .ref a → wpAny (model X.prog X.w) X.A (call (.builtin "repr") [u]) (EP X pins σ Q) X.xe s := fun a e => by
      subst e
      exact repr_of_reads' rd hsh (fun _ => own_no I hs sub ow) hr.g (by have := hr.hu64; omega) (fun _ _ e => e) (fun h' t tk kk => fin h' tk kk t) hsz
    cases hd with
    | non => cases ru; simp only [PyData.shown] at fin; exact PySem.P.repr_of_none (fin s.heap _ (fun _ _ e => e) _)
    | bl b => cases ru; simp only [PyData.shown] at fin; exact PySem.P.repr_of_bool (fin s.heap _ (fun _ _ e => e) _)
    | int i => obtain ⟨t, rfl⟩ := ru; simp only [PyData.shown] at fin; exact PySem.P.repr_of_int (by simpa [PyData.showable] using hsh) (fin s.heap _ (fun _ _ e => e) _)
    | str x => obtain ⟨t, rfl⟩ := ru; simp only [PyData.shown] at fin; exact PySem.P.repr_of_str (fin s.heap _ (fun _ _ e => e) _) (by simpa only [PyData.shown] using hsz)
    | lst _ _ => exact big _ ru
    | tup _ _ => exact big _ ru
    | dic _ _ => exact big _ ru
end
end Z

/-! Z4: statements, targets, loops, comprehensions. -/
namespace Z
open PySem PySem.Spec PyProof.Rows L2

/-! ### statements -/
section
variable {X : Cx} {e a b c : Expr} {st : Stmt} {rest sa sb : List Stmt} {Γ : GS} {M : MS} {D : ZD} {pos : Pos}
theorem zs_nil (h : D.nx Γ M) : ZSs X [] Γ M D := fun F ι σ H R S => w_ss pss_nil ⟨F, ι, M, Γ, Ext.refl F ι H, R, S, h⟩
theorem zs_cons (h : ZS X st Γ M { D with nx := fun Γ1 M1 => ZSs X rest Γ1 M1 D }) : ZSs X (st :: rest) Γ M D := fun F ι σ H R S => by
  refine w_ss (pss_cons ps_w pss_w) ((h F ι σ H R S).mono ⟨?_, fun _ _ q => q, fun _ _ q => q, fun _ _ q => q⟩)
  rintro σ1 H1 ⟨F1, ι1, M1, Γ1, E1, R1, S1, q⟩
  exact (q F1 ι1 σ1 H1 R1 S1).mono (ends_ext E1 D)
theorem ZS.mono {D D' : ZD} (h : ZS X st Γ M D) (k1 : ∀ Γ M, D.nx Γ M → D'.nx Γ M) (k2 : ∀ w M, D.rt w M → D'.rt w M) (k3 : ∀ Γ M, D.bk Γ M → D'.bk Γ M) (k4 : ∀ Γ M, D.ct Γ M → D'.ct Γ M) : ZS X st Γ M D' := fun F ι σ H R S =>
  (h F ι σ H R S).mono ⟨fun _ _ ⟨F', ι', M', w, a, b, c, d⟩ => ⟨F', ι', M', w, a, b, c, k1 _ _ d⟩, fun _ _ ⟨F', ι', M', w, a, b, c, d⟩ => ⟨F', ι', M', w, a, b, c, k2 _ _ d⟩,
    fun _ _ ⟨F', ι', M', w, a, b, c, d⟩ => ⟨F', ι', M', w, a, b, c, k3 _ _ d⟩, fun _ _ ⟨F', ι', M', w, a, b, c, d⟩ => ⟨F', ι', M', w, a, b, c, k4 _ _ d⟩⟩
/-- a statement by what holds behind it -/
theorem zs_cut (I : GS → MS → Prop) (h : ZS X st Γ M { D with nx := I }) (k : ∀ Γ1 M1, I Γ1 M1 → ZSs X rest Γ1 M1 D) : ZSs X (st :: rest) Γ M D := zs_cons (ZS.mono h k (fun _ _ q => q) (fun _ _ q => q) fun _ _ q => q)
theorem zs_ret (h : ZE X e Γ M D.rt) : ZS X (.Return (some e) pos) Γ M D := fun F ι σ H R S => w_s (ps_ret pe_w) (h F ι σ H R S)
theorem zs_retN (h : D.rt (.d .none) M) : ZS X (.Return none pos) Γ M D := fun F ι σ H R S => w_s ps_retN (show Post F ι H D.rt .non H from Post.dat R At.non h)
theorem zs_expr (h : ZE X e Γ M fun _ M1 => D.nx Γ M1) (hs : swapsWith e none pos.line X.env = pure false := by rfl) : ZS X (.Expr e pos) Γ M D := fun F ι σ H R S => by
  refine w_s (ps_expr pe_w hs) ((h F ι σ H R S).mono ?_)
  rintro v H1 ⟨F1, ι1, M1, w, E1, R1, r, q⟩
  exact ⟨F1, ι1, M1, Γ, E1, R1, E1.slots S, q⟩
theorem zs_pass (h : D.nx Γ M) : ZS X (.Pass pos) Γ M D := fun F ι σ H R S => w_s ps_pass ⟨F, ι, M, Γ, Ext.refl F ι H, R, S, h⟩
theorem zs_break (h : D.bk Γ M) : ZS X (.Break pos) Γ M D := fun F ι σ H R S => w_s ps_break ⟨F, ι, M, Γ, Ext.refl F ι H, R, S, h⟩
theorem zs_continue (h : D.ct Γ M) : ZS X (.Continue pos) Γ M D := fun F ι σ H R S => w_s ps_continue ⟨F, ι, M, Γ, Ext.refl F ι H, R, S, h⟩
theorem zs_if (h : ZT X c Γ M fun k M1 => if k = true then ZSs X sa Γ M1 D else ZSs X sb Γ M1 D) : ZS X (.If c sa sb pos) Γ M D := fun F ι σ H R S => by
  refine w_s (ps_if pt_w pss_w pss_w) ((h F ι σ H R S).mono ?_)
  rintro k H1 ⟨F1, ι1, M1, E1, R1, q⟩
  cases k with
  | true => exact (show ZSs X sa Γ M1 D from q) F1 ι1 σ H1 R1 (E1.slots S) |>.mono (ends_ext E1 D)
  | false => exact (show ZSs X sb Γ M1 D from q) F1 ι1 σ H1 R1 (E1.slots S) |>.mono (ends_ext E1 D)

/-! ### targets -/
theorem zg_name (i : Nat) {x : Str} {w : W} {Φ : GS → MS → Prop} (h : Φ (Γ.set i (some w)) M) (hN : X.N.Nodup) (hi : X.N[i]? = some x := by rfl) (hx : Loc X.env.scope x := by first | exact Or.inl rfl | exact Or.inr rfl)
    (hf : X.fn x = true ∨ X.env.scope.names.lookup x = some .local := by first | exact .inl rfl | exact .inr rfl) : ZG X (.Name x pos) w Γ M Φ := fun F ι σ H v R S r =>
  w_g (pg_name hN hi hx hf) ⟨F, ι, M, _, Ext.refl F ι H, R, S.set i r, h⟩
def ZGs (X : Cx) (ts : List Expr) (ws : List W) (Γ : GS) (M : MS) (Φ : GS → MS → Prop) : Prop := ∀ F ι σ H vs, Rep F H ι M → Slots F ι σ Γ → RWs F ι vs ws → ∃ t, PGs X ts t ∧ t vs σ H (PostG F ι H Φ)
theorem zgs_nil {Φ : GS → MS → Prop} (h : Φ Γ M) : ZGs X [] [] Γ M Φ := fun F ι σ H vs R S r => by
  cases r
  exact ⟨_, pgs_nil, rfl, F, ι, M, Γ, Ext.refl F ι H, R, S, h⟩
/-- the next of several targets is a plain name -/
theorem zgs_name (i : Nat) {x : Str} {w : W} {ws : List W} {ts : List Expr} {Φ : GS → MS → Prop} (h : ZGs X ts ws (Γ.set i (some w)) M Φ) (hN : X.N.Nodup) (hi : X.N[i]? = some x := by rfl) (hx : Loc X.env.scope x := by first | exact Or.inl rfl | exact Or.inr rfl)
    (hf : X.fn x = true ∨ X.env.scope.names.lookup x = some .local := by first | exact .inl rfl | exact .inr rfl)
    (hs : (assignEach (.Name x pos :: ts) X.env).map (·.2) = assign (.Name x pos) X.env :: (assignEach ts X.env).map (·.2) := by rfl) : ZGs X (.Name x pos :: ts) (w :: ws) Γ M Φ := fun F ι σ H vs R S r => by
  cases r with
  | cons r1 r2 =>
    obtain ⟨t, p, q⟩ := h F ι _ H _ R (S.set i r1) r2
    exact ⟨_, pgs_cons (pg_name hN hi hx hf) p hs, _, _, rfl, q⟩
theorem zg_tup {es : List Expr} {k : Nat} {ds : List PyData} {Φ : GS → MS → Prop} {n : Nat} (hc : X.calm = true) (h : ZGs X es (ds.map .d) Γ M Φ) (hl : ds.length = n)
    (hn : (assignEach es X.env).length = n := by rfl) (hst : (assignEach es X.env).findIdx? (·.1) = none := by rfl) : ZG X (.Tuple es k pos) (.d (.tuple ds)) Γ M Φ := fun F ι σ H v R S r => by
  obtain ⟨p, vs, rfl, f, ra⟩ := At.tup_ r
  obtain ⟨t, pg, q⟩ := h F ι σ H vs R S (RWs.of ra)
  exact w_g (pg_tup hc pg hn hst) ⟨p, vs, rfl, .of (R.sub _ _ f), by rw [ra.len]; exact hl, q⟩
/-- x = e -/
theorem zs_set (i : Nat) {x : Str} {pos' : Pos} (h : ZE X e Γ M fun w M1 => D.nx (Γ.set i (some w)) M1) (hN : X.N.Nodup) (hi : X.N[i]? = some x := by rfl) (hx : Loc X.env.scope x := by first | exact Or.inl rfl | exact Or.inr rfl)
    (hs : swapsWith e (some (.Name x pos')) pos.line X.env = pure false := by rfl) (hf : X.fn x = true ∨ X.env.scope.names.lookup x = some .local := by first | exact .inl rfl | exact .inr rfl) : ZS X (.Assign [.Name x pos'] e pos) Γ M D := fun F ι σ H R S => by
  refine w_s (ps_set hN hi hx pe_w hs hf) ((h F ι σ H R S).mono ?_)
  rintro v H1 ⟨F1, ι1, M1, w, E1, R1, r, q⟩
  exact ⟨F1, ι1, M1, _, E1, R1, (E1.slots S).set i r, q⟩
/-- target = e -/
theorem zs_asg {tg : Expr} (h : ZE X e Γ M fun w M1 => ZG X tg w Γ M1 D.nx) (hs : swapsWithSole [tg] e pos.line X.env = pure false := by rfl) (hw : swappedStores [tg] e X.env = pure none := by rfl)
    (h1 : (assignEach [tg] X.env).map (·.2) = [assign tg X.env] := by rfl) : ZS X (.Assign [tg] e pos) Γ M D := fun F ι σ H R S => by
  refine w_s (ps_asg pe_w pg_w hs hw h1) ((h F ι σ H R S).mono ?_)
  rintro v H1 ⟨F1, ι1, M1, w, E1, R1, r, q⟩
  exact wG.mono (q F1 ι1 σ H1 v R1 (E1.slots S) r) fun _ _ p => PostG.ext E1 p
/-- a, b = x, y with plain local names -/
theorem zs_par (i j : Nat) {x y : Str} {px py pt : Pos} {kt k2 pt2} (hc : X.calm = true) (h : ZE X a Γ M fun v M1 => ZE X b Γ M1 fun w M2 => D.nx ((Γ.set i (some v)).set j (some w)) M2) (hN : X.N.Nodup) (hi : X.N[i]? = some x := by rfl) (hj : X.N[j]? = some y := by rfl) (hij : i ≠ j := by decide)
    (hx : X.env.scope.names.lookup x = some .local := by rfl) (hy : X.env.scope.names.lookup y = some .local := by rfl)
    (hw : swappedStores [.Tuple [.Name x px, .Name y py] kt pt] (.Tuple [a, b] k2 pt2) X.env = pure (some [x, y]) := by rfl)
    (hs : swapsWithSole [.Tuple [.Name x px, .Name y py] kt pt] (.Tuple [a, b] k2 pt2) pos.line X.env = pure false := by rfl)
    (hs1 : starEach [a, b] X.env = (false, eval a X.env) :: starEach [b] X.env := by rfl) (hs2 : starEach [b] X.env = (false, eval b X.env) :: starEach [] X.env := by rfl) :
    ZS X (.Assign [.Tuple [.Name x px, .Name y py] kt pt] (.Tuple [a, b] k2 pt2) pos) Γ M D := fun F ι σ H R S => by
  have ha : ZA X [a, b] Γ M fun ws M2 => ∃ v w, ws = [v, w] ∧ D.nx ((Γ.set i (some v)).set j (some w)) M2 := za_cons (h.mono fun v M1 q => za_cons (q.mono fun w M2 q2 => za_nil ⟨v, w, rfl, q2⟩) hs2) hs1
  refine w_s (ps_par hc hN hi hj hij hx hy pa_w hw hs) ((ha F ι σ H R S).mono ?_)
  rintro vs H1 ⟨F1, ι1, M1, ws, E1, R1, r, v, w, rfl, q⟩
  cases r with
  | cons r1 r2 =>
    cases r2 with
    | cons r2 r3 =>
      cases r3
      exact ⟨_, _, rfl, F1, ι1, M1, _, E1, R1, ((E1.slots S).set i r1).set j r2, q⟩
end

/-! ### what is walked -/
structure Grow (F H F' H' : Hp) : Prop where
  same : Same F F'
  hs : Same H H'
  sub : Same F' H'
  nw : ∀ a o, F' a = some o → F a = none → H a = none
theorem Grow.refl {F H : Hp} (s : Same F H) : Grow F H F H := ⟨Same.refl F, Same.refl H, s, fun a o e n => by rw [n] at e; cases e⟩
theorem Rep.grow {F H F' H' : Hp} {ι : List Addr} {M : MS} (R : Rep F H ι M) (g : Grow F H F' H') : Ext F ι H F' ι H' ∧ Rep F' H' ι M := by
  refine ⟨⟨g.same, ⟨[], by simp⟩, fun a o e _ => g.hs a o e, fun a h n => absurd h n, fun a o e n => .inl (g.nw a o e n)⟩, g.sub, R.len, R.nd, fun a h => ?_, fun k a mo h1 h2 => ?_⟩
  · obtain ⟨o, e⟩ := R.tr a h
    exact ⟨o, g.hs a o e⟩
  · rcases R.at_ k a mo h1 h2 with z | ⟨z1, x, z2, z3⟩
    · exact .inl z
    · refine .inr ⟨?_, x, g.hs a x z2, z3.up g.same ⟨[], by simp⟩⟩
      cases e : F' a with
      | none => rfl
      | some o =>
        rw [g.nw a o e z1] at z2; cases z2
/-- the iterator yields these data, one after another, whatever happens meanwhile -/
def Yld (F : Hp) (J : It) (ds : List PyData) : Prop := ∀ F' H, Same F F' → Same F' H → ∀ i : Nat,
  (∀ d, ds[i]? = some d → J.go i H ∧ ∀ x H', J.yld i H x H' → ∃ F2, Grow F' H F2 H' ∧ At F2 x d) ∧ (ds.length ≤ i → J.stop i H)
def ZI (X : Cx) (tg it : Expr) (Γ : GS) (M : MS) (Ψ : List PyData → MS → Prop) : Prop := ∀ F ι σ H, Rep F H ι M → Slots F ι σ Γ →
  wI X tg it σ H fun J H1 => ∃ F1 ι1 M1 ds, Ext F ι H F1 ι1 H1 ∧ Rep F1 H1 ι1 M1 ∧ Yld F1 J ds ∧ Ψ ds M1
theorem yld_list {K : PySem.W.Frag} {F : Hp} {a : Addr} {vs : List V} {ds : List PyData} (f : F a = some (.lst vs)) (r : AtAll F vs ds) : Yld F (Itl K a) ds := fun F' H s1 s2 i => by
  have hq : SqL K H a vs := .of (s2 _ _ (s1 _ _ f))
  refine ⟨fun d e => ?_, fun h => ⟨vs, hq, by rw [r.len]; exact h⟩⟩
  obtain ⟨y, e1, ry⟩ := r.get e
  refine ⟨⟨vs, y, hq, e1⟩, fun x H' ⟨eH, fx⟩ => ?_⟩
  subst eH
  have : x = y := Option.some.inj ((fx vs hq).symm.trans e1)
  subst this
  exact ⟨F', .refl s2, ry.up s1⟩
theorem yld_tup {K : PySem.W.Frag} {F : Hp} {a : Addr} {vs : List V} {ds : List PyData} (f : F a = some (.tup vs)) (r : AtAll F vs ds) : Yld F (Itt K a) ds := fun F' H s1 s2 i => by
  have hq : SqT K H a vs := .of (s2 _ _ (s1 _ _ f))
  refine ⟨fun d e => ?_, fun h => ⟨vs, hq, by rw [r.len]; exact h⟩⟩
  obtain ⟨y, e1, ry⟩ := r.get e
  refine ⟨⟨vs, y, hq, e1⟩, fun x H' ⟨eH, fx⟩ => ?_⟩
  subst eH
  have : x = y := Option.some.inj ((fx vs hq).symm.trans e1)
  subst this
  exact ⟨F', .refl s2, ry.up s1⟩
theorem yld_range {F : Hp} {lo : Int} {n : Nat} : Yld F (Itr lo n) ((List.range n).map fun (i : Nat) => .int (lo + i)) := fun F' H s1 s2 i => by
  refine ⟨fun d e => ?_, fun h => (show n ≤ i by simpa using h)⟩
  rw [List.getElem?_map] at e
  by_cases hi : i < n
  · rw [List.getElem?_range hi] at e
    cases e
    refine ⟨hi, fun x H' ⟨eH, ex⟩ => ?_⟩
    subst eH ex
    exact ⟨F', .refl s2, .int _⟩
  · rw [List.getElem?_eq_none (by simpa using hi)] at e; cases e
section
variable {X : Cx} {tg l e e2 : Expr} {Γ : GS} {M : MS} {Ψ : List PyData → MS → Prop} {pos p : Pos}
/-- a list or a tuple is walked -/
def iSeq (K : PySem.W.Frag) (tl : TE) : TI := fun σ H R => tl σ H fun x H1 => ∃ a, x = .ref a ∧ (((∃ xs, SqL K H1 a xs) ∧ R (Itl K a) H1) ∨ ((∃ xs, SqT K H1 a xs) ∧ R (Itt K a) H1))
theorem pi_seq {tl : TE} (hl : PE X l tl) : PI X tg l (iSeq X.K tl) := by
  refine ⟨fun pins s σ H R I h => ?_⟩
  refine thn (hl.run pins s σ H _ I h) fun v s1 ⟨x, H1, I1, r1, a, e, q⟩ => ?_
  subst e
  obtain rfl : v = Value.ref a := r1
  have fin : ∀ b ∈ [s1.heap.objs.size], FpOk X pins H1 b := fun b hb => by
    rw [List.mem_singleton.mp hb]
    exact I1.fpOk (Nat.le_refl _) (I1.hok.fresh (Nat.le_refl _))
  rcases q with ⟨⟨xs, hq⟩, q⟩ | ⟨⟨xs, hq⟩, q⟩
  · obtain ⟨its, _, p, _⟩ := I1.list hq
    refine wpAny_pyIter_list p.isList ⟨s1.heap.objs.size, [s1.heap.objs.size], _, _, H1, rfl, ?_, turn_list a _, ⟨_, Heap.get?_push_size _ rfl, rfl, rfl⟩, fin, q⟩
    exact I1.kept (t' := s1.toks) fun b o e => Heap.get?_push_of_some _ e
  · obtain ⟨its, _, p, _⟩ := I1.tuple hq
    refine wpAny_pyIter_tuple (show s1.heap.IsTuple a its.toArray from p) ⟨s1.heap.objs.size, [s1.heap.objs.size], _, _, H1, rfl, ?_, turn_tuple a _, ⟨_, Heap.get?_push_size _ rfl, rfl, rfl⟩, fin, q⟩
    exact I1.kept (t' := s1.toks) fun b o e => Heap.get?_push_of_some _ e
def SeqW (w : W) (M : MS) (Ψ : List PyData → MS → Prop) : Prop := ∃ ds, (w = .d (.list ds) ∨ w = .d (.tuple ds)) ∧ Ψ ds M
theorem SeqW.list {ds : List PyData} (h : Ψ ds M) : SeqW (.d (.list ds)) M Ψ := ⟨ds, .inl rfl, h⟩
theorem SeqW.tuple {ds : List PyData} (h : Ψ ds M) : SeqW (.d (.tuple ds)) M Ψ := ⟨ds, .inr rfl, h⟩
theorem zi_seq (h : ZE X l Γ M fun w M1 => SeqW w M1 Ψ) : ZI X tg l Γ M Ψ := fun F ι σ H R S => by
  refine w_i (pi_seq pe_w) ((h F ι σ H R S).mono ?_)
  rintro v H1 ⟨F1, ι1, M1, w, E1, R1, r, ds, hw, q⟩
  rcases hw with rfl | rfl
  · obtain ⟨a, vs, rfl, f, ra⟩ := At.lst_ r
    exact ⟨a, rfl, .inl ⟨⟨vs, .of (R1.sub _ _ f)⟩, F1, ι1, M1, ds, E1, R1, yld_list f ra, q⟩⟩
  · obtain ⟨a, vs, rfl, f, ra⟩ := At.tup_ r
    exact ⟨a, rfl, .inr ⟨⟨vs, .of (R1.sub _ _ f)⟩, F1, ι1, M1, ds, E1, R1, yld_tup f ra, q⟩⟩
theorem zi_range1 (hm : X.mg "range" = none) (h : ZE X e Γ M fun w M1 => ∃ n : Nat, w = .d (.int n) ∧ n < 2 ^ 62 ∧ Ψ ((List.range n).map fun (i : Nat) => .int i) M1) (hg : Gl X "range" := by rfl)
    (hs : starEach [e] X.env = (false, eval e X.env) :: starEach [] X.env := by rfl) : ZI X tg (.Call (.Name "range" p) [e] [] pos) Γ M Ψ := fun F ι σ H R S => by
  have ha : ZA X [e] Γ M fun ws M1 => ∃ n : Nat, ws = [.d (.int n)] ∧ n < 2 ^ 62 ∧ Ψ ((List.range n).map fun (i : Nat) => .int i) M1 := za_cons (h.mono fun w M1 ⟨n, e1, hn, q⟩ => za_nil ⟨n, by rw [e1], hn, q⟩) hs
  refine w_i (pi_range1 hg hm pa_w hs) ((ha F ι σ H R S).mono ?_)
  rintro vs H1 ⟨F1, ι1, M1, ws, E1, R1, r, n, rfl, hn, q⟩
  cases r with
  | cons r1 r2 =>
    cases r2
    have hn' : (n : Int) < 2 ^ 62 := by exact_mod_cast hn
    refine ⟨n, by rw [At.int_ r1], by omega, hn', F1, ι1, M1, _, E1, R1, yld_range, ?_⟩
    simpa using q
end
end Z

/-! Z5: for loops, list and dict comprehensions. -/
namespace Z
open PySem PySem.Spec PyProof.Rows L2
section
variable {X : Cx} {tg it elt : Expr} {body : List Stmt} {Γ : GS} {M : MS} {D : ZD} {pos : Pos} {Φ : W → MS → Prop}
/-- the turns of a loop: I holds ahead of turn i -/
structure ForT (X : Cx) (tg : Expr) (body : List Stmt) (D : ZD) (ds : List PyData) (Γ : GS) (M : MS) (I : Nat → GS → MS → Prop) : Prop where
  zero : I 0 Γ M
  turn : ∀ i d Γ1 M1, ds[i]? = some d → I i Γ1 M1 → ZG X tg (.d d) Γ1 M1 fun Γ2 M2 => ZSs X body Γ2 M2 { D with nx := I (i + 1), ct := I (i + 1), bk := D.nx }
  done : ∀ Γ1 M1, I ds.length Γ1 M1 → D.nx Γ1 M1
theorem zs_for (hp : PassesOwn (model X.prog X.w) X.A X.env X.xe) (hc : X.calm = true) (h : ZI X tg it Γ M fun ds M0 => ∃ I, ForT X tg body D ds Γ M0 I) (hs : ∀ x, foldedSetIterable it X.env x = pure x := by intro _; rfl) :
    ZS X (.For tg it body [] pos) Γ M D := fun F ι σ H R S => by
  refine w_s (ps_for hp hc pi_w pg_w pss_w hs) ((h F ι σ H R S).mono ?_)
  rintro J H1 ⟨F1, ι1, M1, ds, E1, R1, yd, I, T⟩
  have W : Nat → St → Hp → Prop := fun i σ' H' => True
  let W : Nat → St → Hp → Prop := fun i σ' H' => i ≤ ds.length ∧ ∃ F' ι' M' Γ', Ext F ι H F' ι' H' ∧ Same F1 F' ∧ Rep F' H' ι' M' ∧ Slots F' ι' σ' Γ' ∧ I i Γ' M'
  refine ⟨fun i m σ' H' => m = ds.length - i ∧ W i σ' H', ⟨ds.length, rfl, Nat.zero_le _, F1, ι1, M1, Γ, E1, Same.refl _, R1, E1.slots S, T.zero⟩, ?_⟩
  rintro i m σ' H' ⟨rfl, hi, F2, ι2, M2, Γ2, E2, s2, R2, S2, hI⟩
  have y := yd F2 H' s2 R2.sub i
  by_cases hlt : i < ds.length
  · obtain ⟨go, st⟩ := y.1 _ (List.getElem?_eq_getElem hlt)
    refine .inr ⟨go, W (i + 1), fun σ3 H3 w3 => ⟨ds.length - (i + 1), by omega, rfl, w3⟩, fun x H3 hy => ?_⟩
    obtain ⟨F3, g, ax⟩ := st x H3 hy
    obtain ⟨E3, R3⟩ := R2.grow g
    refine wG.mono (T.turn i _ Γ2 M2 (List.getElem?_eq_getElem hlt) hI F3 ι2 σ' H3 x R3 (E3.slots S2) ax) ?_
    rintro σ4 H4 ⟨F4, ι4, M4, Γ4, E4, R4, S4, hb⟩
    have E14 := (E2.trans E3).trans E4
    have s4 : Same F1 F4 := (s2.trans E3.same).trans E4.same
    refine wSs.mono (hb F4 ι4 σ4 H4 R4 S4) ⟨?_, fun v H5 p => Post.ext E14 p, fun σ5 H5 p => PostG.ext E14 p, ?_⟩
    · rintro σ5 H5 ⟨F5, ι5, M5, Γ5, E5, R5, S5, q⟩
      exact ⟨hlt, F5, ι5, M5, Γ5, E14.trans E5, s4.trans E5.same, R5, S5, q⟩
    · rintro σ5 H5 ⟨F5, ι5, M5, Γ5, E5, R5, S5, q⟩
      exact ⟨hlt, F5, ι5, M5, Γ5, E14.trans E5, s4.trans E5.same, R5, S5, q⟩
  · have e : i = ds.length := by omega
    subst e
    exact .inl ⟨y.2 (Nat.le_refl _), F2, ι2, M2, Γ2, E2, R2, S2, T.done Γ2 M2 hI⟩

/-! ### the block of a comprehension: its own names forgotten -/
def wipeG (Γ : GS) : List Nat → GS
  | [] => Γ
  | v :: vs => (wipeG Γ vs).set v none
theorem Slots.wipe {F : Hp} {ι : List Addr} {σ : St} (h : Slots F ι σ Γ) : ∀ vs : List Nat, Slots F ι (L2.wipe σ vs) (wipeG Γ vs)
  | [] => h
  | v :: vs => by
    have ih := Slots.wipe h vs
    refine ⟨by unfold L2.wipe wipeG; rw [List.length_set, List.length_set]; exact ih.len, fun i w e => ?_⟩
    unfold wipeG at e
    unfold L2.wipe
    by_cases hi : v = i
    · subst hi
      by_cases hl : v < (wipeG Γ vs).length
      · rw [List.getElem?_set_self hl] at e; cases e
      · rw [List.getElem?_eq_none (by simpa using hl)] at e; cases e
    · rw [List.getElem?_set_ne hi] at e
      rw [List.getElem?_set_ne hi]
      exact ih.get i w e
theorem wipe_set {σ : St} {i : Nat} {x : Option V} : ∀ {vs : List Nat}, i ∈ vs → L2.wipe (σ.set i x) vs = L2.wipe σ vs
  | [], h => absurd h (by simp)
  | v :: vs, h => by
    have out : ∀ {us : List Nat}, i ∉ us → L2.wipe (σ.set i x) us = (L2.wipe σ us).set i x := by
      intro us
      induction us with
      | nil => intro _; rfl
      | cons u us ih =>
        intro hn
        have h1 : i ≠ u := fun e => hn (by simp [e])
        have h2 : i ∉ us := fun e => hn (by simp [e])
        unfold L2.wipe
        rw [ih h2, List.set_comm _ _ h1]
    unfold L2.wipe
    by_cases hm : i ∈ vs
    · rw [wipe_set hm]
    · have e : i = v := by
        rcases List.mem_cons.mp h with e | e
        · exact e
        · exact absurd e hm
      subst e
      rw [out hm]
      simp
theorem wipe_get (σ : St) (i : Nat) : ∀ vs : List Nat, (L2.wipe σ vs)[i]? = if i ∈ vs then (if i < σ.length then some none else none) else σ[i]?
  | [] => by simp [L2.wipe]
  | v :: vs => by
    have ih := wipe_get σ i vs
    have hl := L2.wipe_length σ vs
    unfold L2.wipe
    by_cases e : v = i
    · subst e
      rw [if_pos (by simp)]
      by_cases hi : v < σ.length
      · rw [List.getElem?_set_self (by rw [hl]; exact hi), if_pos hi]
      · rw [List.getElem?_eq_none (by simp [hl]; omega), if_neg hi]
    · rw [List.getElem?_set_ne e, ih]
      by_cases m : i ∈ vs
      · rw [if_pos m, if_pos (List.mem_cons_of_mem _ m)]
      · rw [if_neg m, if_neg (fun z => (List.mem_cons.mp z).elim (fun q => e q.symm) m)]
theorem wipe_wipe (σ : St) (vs : List Nat) : L2.wipe (L2.wipe σ vs) vs = L2.wipe σ vs := by
  refine List.ext_getElem? fun i => ?_
  rw [wipe_get, wipe_get, L2.wipe_length]
  by_cases m : i ∈ vs
  · rw [if_pos m, if_pos m]
  · rw [if_neg m, if_neg m]
/-- the block of a comprehension as it runs -/
structure Blk where
  s : Shared
  H : Hp
  C : Addr
  cl : List (Str × Addr)
  fp : List Addr
abbrev bk (X : Cx) (scope : Scope) (B : Blk) : Cx := X.blk B.s B.H scope (compEnvC scope B.cl B.C X.env) B.fp
/-- a target within a block -/
def ZGB (X : Cx) (vs : List Nat) (tg : Expr) (w : W) (Γ : GS) (M : MS) (Φ : GS → MS → Prop) : Prop := ∀ F ι σ H v, Rep F H ι M → Slots F ι σ Γ → RW F ι v w →
  wG X tg v σ H fun σ' H' => L2.wipe σ' vs = L2.wipe σ vs ∧ PostG F ι H Φ σ' H'
theorem zgb_name (i : Nat) {vs : List Nat} {x : Str} {w : W} {Φ : GS → MS → Prop} (h : Φ (Γ.set i (some w)) M) (hN : X.N.Nodup) (hi : X.N[i]? = some x := by rfl) (hx : Loc X.env.scope x := by first | exact Or.inl rfl | exact Or.inr rfl) (hm : i ∈ vs := by decide)
    (hf : X.fn x = true ∨ X.env.scope.names.lookup x = some .local := by first | exact .inl rfl | exact .inr rfl) : ZGB X vs (.Name x pos) w Γ M Φ := fun F ι σ H v R S r =>
  w_g (pg_name hN hi hx hf) ⟨wipe_set hm, F, ι, M, _, Ext.refl F ι H, R, S.set i r, h⟩
def ZGBs (X : Cx) (vs : List Nat) (ts : List Expr) (ws : List W) (Γ : GS) (M : MS) (Φ : GS → MS → Prop) : Prop := ∀ F ι σ H us, Rep F H ι M → Slots F ι σ Γ → RWs F ι us ws →
  ∃ t, PGs X ts t ∧ t us σ H fun σ' H' => L2.wipe σ' vs = L2.wipe σ vs ∧ PostG F ι H Φ σ' H'
theorem zgbs_nil {vs : List Nat} {Φ : GS → MS → Prop} (h : Φ Γ M) : ZGBs X vs [] [] Γ M Φ := fun F ι σ H us R S r => by
  cases r
  exact ⟨_, pgs_nil, rfl, rfl, F, ι, M, Γ, Ext.refl F ι H, R, S, h⟩
theorem zgbs_name (i : Nat) {vs : List Nat} {x : Str} {w : W} {ws : List W} {ts : List Expr} {Φ : GS → MS → Prop} (h : ZGBs X vs ts ws (Γ.set i (some w)) M Φ) (hN : X.N.Nodup) (hi : X.N[i]? = some x := by rfl) (hx : Loc X.env.scope x := by first | exact Or.inl rfl | exact Or.inr rfl) (hm : i ∈ vs := by decide)
    (hf : X.fn x = true ∨ X.env.scope.names.lookup x = some .local := by first | exact .inl rfl | exact .inr rfl)
    (hs : (assignEach (.Name x pos :: ts) X.env).map (·.2) = assign (.Name x pos) X.env :: (assignEach ts X.env).map (·.2) := by rfl) : ZGBs X vs (.Name x pos :: ts) (w :: ws) Γ M Φ := fun F ι σ H us R S r => by
  cases r with
  | @cons u _ _ _ r1 r2 =>
    obtain ⟨t, p, q⟩ := h F ι (σ.set i (some u)) H _ R (S.set i r1) r2
    rw [wipe_set hm] at q
    exact ⟨_, pgs_cons (pg_name hN hi hx hf) p hs, _, _, rfl, q⟩
theorem zgb_tup {vs : List Nat} {es : List Expr} {k : Nat} {ds : List PyData} {Φ : GS → MS → Prop} {n : Nat} (hc : X.calm = true) (h : ZGBs X vs es (ds.map .d) Γ M Φ) (hl : ds.length = n)
    (hn : (assignEach es X.env).length = n := by rfl) (hst : (assignEach es X.env).findIdx? (·.1) = none := by rfl) : ZGB X vs (.Tuple es k pos) (.d (.tuple ds)) Γ M Φ := fun F ι σ H v R S r => by
  obtain ⟨p, us, rfl, f, ra⟩ := At.tup_ r
  obtain ⟨t, pg, q⟩ := h F ι σ H us R S (RWs.of ra)
  exact w_g (pg_tup hc pg hn hst) ⟨p, us, rfl, .of (R.sub _ _ f), by rw [ra.len]; exact hl, q⟩
/-- a clause's tests -/
def wTs (X : Cx) (ifs : List Expr) : TT := fun σ H Q => ∀ pins s, Inv X pins σ H s →
  wpAny (model X.prog X.w) X.A (forIn ifs true fun c r => if r = true then do let ok ← isTrue c X.env (eval c X.env); pure (ForInStep.yield ok) else pure (ForInStep.yield r)) (TP X pins σ Q) X.xe s
theorem pts_w {ifs : List Expr} : PTs X ifs (wTs X ifs) := ⟨fun pins s _ _ _ I h => h pins s I⟩
def ZTs (X : Cx) (ifs : List Expr) (Γ : GS) (M : MS) (Φ : Bool → MS → Prop) : Prop := ∀ F ι σ H, Rep F H ι M → Slots F ι σ Γ → wTs X ifs σ H (PostT F ι H Φ)
theorem zts_nil {Ψ : Bool → MS → Prop} (h : Ψ true M) : ZTs X [] Γ M Ψ := fun F ι σ H R S pins s I => pts_nil.run pins s σ H _ I ⟨F, ι, M, Ext.refl F ι H, R, h⟩
theorem zts_one {c : Expr} {Ψ : Bool → MS → Prop} (h : ZT X c Γ M Ψ) : ZTs X [c] Γ M Ψ := fun F ι σ H R S pins s I => (pts_one pt_w).run pins s σ H _ I (h F ι σ H R S)
theorem wTs.mono {ifs : List Expr} {σ : St} {H : Hp} {Q Q' : Bool → Hp → Prop} (h : wTs X ifs σ H Q) (k : ∀ b H', Q b H' → Q' b H') : wTs X ifs σ H Q' := fun pins s I =>
  thn (h pins s I) fun _ _ ⟨H', I', q⟩ => ⟨H', I', k _ H' q⟩

/-! ### list comprehensions -/
structure LcT (X : Cx) (vs : List Nat) (tg elt : Expr) (ifs : List Expr) (scope : Scope) (ds : List PyData) (Γ : GS) (M : MS) (I : Nat → List W → MS → Prop) (Φ : List W → MS → Prop) : Prop where
  zero : I 0 [] M
  turn : ∀ i d acc M1, ds[i]? = some d → I i acc M1 → ∀ B, ZGB (bk X scope B) vs tg (.d d) (wipeG Γ vs) M1 fun Γ2 M2 => ∀ B, ZTs (bk X scope B) ifs Γ2 M2 fun b M3 =>
      if b = true then ∀ B, ZE (bk X scope B) elt Γ2 M3 fun y M4 => acc.length < sizeLine ∧ I (i + 1) (acc ++ [y]) M4 else I (i + 1) acc M3
  done : ∀ acc M1, I ds.length acc M1 → Φ acc M1
def bG (X : Cx) (scope : Scope) (tg : Expr) : TG := fun v σ H Q => ∀ B, wG (bk X scope B) tg v σ H Q
def bTs (X : Cx) (scope : Scope) (ifs : List Expr) : TT := fun σ H Q => ∀ B, wTs (bk X scope B) ifs σ H Q
def bE (X : Cx) (scope : Scope) (e : Expr) : TE := fun σ H Q => ∀ B, wE (bk X scope B) e σ H Q
theorem pg_b {scope : Scope} (s : Shared) (H0 : Hp) (C : Addr) (cl : List (Str × Addr)) (fp : List Addr) : PG (X.blk s H0 scope (compEnvC scope cl C X.env) fp) tg (bG X scope tg) := ⟨fun pins s' _ _ _ u _ I r h => h ⟨s, H0, C, cl, fp⟩ pins s' u I r⟩
theorem pts_b {scope : Scope} {ifs : List Expr} (s : Shared) (H0 : Hp) (C : Addr) (cl : List (Str × Addr)) (fp : List Addr) : PTs (X.blk s H0 scope (compEnvC scope cl C X.env) fp) ifs (bTs X scope ifs) := ⟨fun pins s' _ _ _ I h => h ⟨s, H0, C, cl, fp⟩ pins s' I⟩
theorem pe_b {scope : Scope} (s : Shared) (H0 : Hp) (C : Addr) (cl : List (Str × Addr)) (fp : List Addr) : PE (X.blk s H0 scope (compEnvC scope cl C X.env) fp) elt (bE X scope elt) := ⟨fun pins s' _ _ _ I h => h ⟨s, H0, C, cl, fp⟩ pins s' I⟩
/-- a turn's end keeps what stands outside -/
theorem out_kept {F H F' H' : Hp} {ι ι' : List Addr} {L : Addr} {o : HO} (E : Ext F ι H F' ι' H') (hL : H L = some o) (nF : F L = none) (nι : L ∉ ι) : H' L = some o ∧ F' L = none ∧ L ∉ ι' := by
  refine ⟨E.kp L o hL nι, ?_, fun z => ?_⟩
  · cases e : F' L with
    | none => rfl
    | some u =>
      rcases E.nw L u e nF with z | z
      · rw [hL] at z; cases z
      · exact absurd z nι
  · have := E.fr L z nι
    rw [hL] at this; cases this
/-- an outside list is written -/
theorem out_put {F H : Hp} {ι : List Addr} {M : MS} {L : Addr} {o : HO} (R : Rep F H ι M) (nF : F L = none) (nι : L ∉ ι) : Rep F (upd H L o) ι M := by
  have ne : ∀ a ∈ ι, a ≠ L := fun a h z => by rw [z] at h; exact nι h
  refine ⟨fun b x e => ?_, R.len, R.nd, fun a h => ?_, fun k a mo h1 h2 => ?_⟩
  · have : b ≠ L := fun z => by rw [z, nF] at e; cases e
    rw [upd_ne this]; exact R.sub b x e
  · obtain ⟨x, e⟩ := R.tr a h
    exact ⟨x, by rw [upd_ne (ne a h)]; exact e⟩
  · rcases R.at_ k a mo h1 h2 with z | ⟨z1, x, z2, z3⟩
    · exact .inl z
    · exact .inr ⟨z1, x, by rw [upd_ne (ne a (List.mem_of_getElem? h1))]; exact z2, z3⟩
theorem RWs.app {F : Hp} {ι : List Addr} : ∀ {vs us : List V} {ws xs : List W}, RWs F ι vs ws → RWs F ι us xs → RWs F ι (vs ++ us) (ws ++ xs)
  | _, _, _, _, .nil, h => h
  | _, _, _, _, .cons a b, h => .cons a (RWs.app b h)
theorem lc_read {ifs : List Expr} {scope : Scope} {vs : List Nat} {F : Hp} {ι : List Addr} {σ : St} {H : Hp} {Φl : List W → MS → Prop} {Q : VK} (S : Slots F ι σ Γ) (R : Rep F H ι M)
    (h : ZI X tg it Γ M fun ds M1 => ∃ I, LcT X vs tg elt ifs scope ds Γ M1 I Φl)
    (fin : ∀ L H' F' ι' M' acc us, Ext F ι H F' ι' H' → Rep F' H' ι' M' → H' L = some (.lst us) → RWs F' ι' us acc → F' L = none → L ∉ ι' → H L = none → Φl acc M' → Q (.ref L) H') :
    tLc (wI X tg it) (bG X scope tg) (bTs X scope ifs) (bE X scope elt) vs σ H Q := by
  refine (h F ι σ H R S).mono ?_
  rintro J H1 ⟨F1, ι1, M1, ds, E1, R1, yd, I, T⟩ L nL
  have nF1 : F1 L = none := R1.sub.free nL
  have nι1 : L ∉ ι1 := fun z => by
    obtain ⟨o, e⟩ := R1.tr L z
    rw [nL] at e; cases e
  have nι : L ∉ ι := fun z => by
    obtain ⟨r, rfl⟩ := E1.pre
    exact nι1 (List.mem_append_left r z)
  have nH : H L = none := by
    cases e : H L with
    | none => rfl
    | some o => rw [E1.kp L o e nι] at nL; cases nL
  let W : Nat → Hp → Prop := fun i H' => i ≤ ds.length ∧ ∃ F' ι' M' acc us, Ext F ι H F' ι' H' ∧ Same F1 F' ∧ Rep F' H' ι' M' ∧ H' L = some (.lst us) ∧ RWs F' ι' us acc ∧ F' L = none ∧ L ∉ ι' ∧ I i acc M'
  have put : ∀ {F' ι' H' o}, Ext F ι H F' ι' H' → Ext F ι H F' ι' (upd H' L o) := fun E => ⟨E.same, E.pre, fun a x e m => by
    rw [upd_ne (ne_of_none e nH)]; exact E.kp a x e m, E.fr, E.nw⟩
  refine ⟨fun i m H' => m = ds.length - i ∧ W i H', ⟨ds.length, rfl, Nat.zero_le _, F1, ι1, M1, [], [], put E1, Same.refl _, out_put R1 nF1 nι1, upd_same, .nil, nF1, nι1, T.zero⟩, ?_⟩
  rintro i m H' ⟨rfl, hi, F2, ι2, M2, acc, us, E2, s2, R2, hL, ha, nF2, nι2, hI⟩
  have y := yd F2 H' s2 R2.sub i
  by_cases hlt : i < ds.length
  · obtain ⟨go, st⟩ := y.1 _ (List.getElem?_eq_getElem hlt)
    refine .inr ⟨go, W (i + 1), fun H3 w3 => ⟨ds.length - (i + 1), by omega, rfl, w3⟩, fun x H3 hy B => ?_⟩
    obtain ⟨F3, g, ax⟩ := st x H3 hy
    obtain ⟨E3, R3⟩ := R2.grow g
    have tn := T.turn i _ acc M2 (List.getElem?_eq_getElem hlt) hI
    refine wG.mono (tn B F3 ι2 _ H3 x R3 ((E3.slots (E2.slots S)).wipe vs) ax) ?_
    rintro σ4 H4 ⟨hw, F4, ι4, M4, Γ4, E4, R4, S4, h4⟩
    rw [wipe_wipe] at hw
    obtain ⟨hL3, nF3, nι3⟩ := out_kept E3 hL nF2 nι2
    obtain ⟨hL4, nF4, nι4⟩ := out_kept E4 hL3 nF3 nι3
    refine ⟨hw, fun B => wTs.mono (h4 B F4 ι4 σ4 H4 R4 S4) ?_⟩
    rintro b H5 ⟨F5, ι5, M5, E5, R5, h5⟩
    obtain ⟨hL5, nF5, nι5⟩ := out_kept E5 hL4 nF4 nι4
    have E25 := (((E2.trans E3).trans E4).trans E5)
    have s5 : Same F1 F5 := ((s2.trans E3.same).trans E4.same).trans E5.same
    have ha5 : RWs F5 ι5 us acc := ((E3.trans E4).trans E5).rws ha
    cases b with
    | false =>
      rw [if_neg Bool.false_ne_true] at h5 ⊢
      exact ⟨hlt, F5, ι5, M5, acc, us, E25, s5, R5, hL5, ha5, nF5, nι5, h5⟩
    | true =>
      rw [if_pos rfl] at h5 ⊢
      refine fun B => wE.mono (h5 B F5 ι5 σ4 H5 R5 (E5.slots S4)) ?_
      rintro z H6 ⟨F6, ι6, M6, zw, E6, R6, rz, hz, h6⟩
      obtain ⟨hL6, nF6, nι6⟩ := out_kept E6 hL5 nF5 nι5
      have ha6 := E6.rws ha5
      exact ⟨us, hL6, by rw [ha.len]; exact hz, hlt, F6, ι6, M6, acc ++ [zw], us ++ [z], put (E25.trans E6), s5.trans E6.same, out_put R6 nF6 nι6, upd_same, ha6.app (.cons rz .nil), nF6, nι6, h6⟩
  · have e : i = ds.length := by omega
    subst e
    exact .inl ⟨y.2 (Nat.le_refl _), fin L H' F2 ι2 M2 acc us E2 R2 hL ha nF2 nι2 nH (T.done acc M2 hI)⟩
/-- an outside object becomes data, or a cell -/
theorem out_lay {F H F' H' : Hp} {ι ι' : List Addr} {M : MS} {L : Addr} {o : HO} (E : Ext F ι H F' ι' H') (R : Rep F' H' ι' M) (hL : H' L = some o) (nF : F' L = none) (nι : L ∉ ι') (nH : H L = none) : Ext F ι H (upd F' L o) ι' H' ∧ Rep (upd F' L o) H' ι' M := by
  have sF : Same F' (upd F' L o) := fun b x e => by rw [upd_ne (ne_of_none e nF)]; exact e
  refine ⟨⟨E.same.trans sF, E.pre, E.kp, E.fr, fun a x e n => ?_⟩, fun b x e => ?_, R.len, R.nd, R.tr, fun k a mo h1 h2 => ?_⟩
  · by_cases z : a = L
    · rw [z]; exact .inl nH
    · rw [upd_ne z] at e; exact E.nw a x e n
  · by_cases z : b = L
    · subst z; rw [upd_same] at e; cases e; exact hL
    · rw [upd_ne z] at e; exact R.sub b x e
  · rcases R.at_ k a mo h1 h2 with z | ⟨z1, x, z2, z3⟩
    · exact .inl z
    · have : a ≠ L := fun z => by rw [z] at h1; exact nι (List.mem_of_getElem? h1)
      exact .inr ⟨by rw [upd_ne this]; exact z1, x, z2, z3.up sF ⟨[], by simp⟩⟩
theorem out_cell {F H F' H' : Hp} {ι ι' : List Addr} {M : MS} {L : Addr} {o : HO} {mo : MO} (E : Ext F ι H F' ι' H') (R : Rep F' H' ι' M) (hL : H' L = some o) (nF : F' L = none) (nι : L ∉ ι') (nH : H L = none) (h : MOk F' ι' mo o) :
    Ext F ι H F' (ι' ++ [L]) H' ∧ Rep F' H' (ι' ++ [L]) (M ++ [mo]) := by
  refine ⟨⟨E.same, ?_, E.kp, fun a m n => ?_, E.nw⟩, R.sub, by simp [R.len], ?_, fun a m => ?_, fun k a mo' h1 h2 => ?_⟩
  · obtain ⟨r, rfl⟩ := E.pre
    exact ⟨r ++ [L], by rw [List.append_assoc]⟩
  · rcases List.mem_append.mp m with z | z
    · exact E.fr a z n
    · rw [List.mem_singleton.mp z]; exact nH
  · exact List.nodup_append.mpr ⟨R.nd, by simp, fun a ha b hb z => by subst z; rw [List.mem_singleton.mp hb] at ha; exact nι ha⟩
  · rcases List.mem_append.mp m with z | z
    · exact R.tr a z
    · rw [List.mem_singleton.mp z]; exact ⟨o, hL⟩
  · by_cases hk : k < ι'.length
    · rw [List.getElem?_append_left hk] at h1
      rw [List.getElem?_append_left (by rw [← R.len]; exact hk)] at h2
      rcases R.at_ k a mo' h1 h2 with z | ⟨z1, x, z2, z3⟩
      · exact .inl z
      · exact .inr ⟨z1, x, z2, z3.up (Same.refl F') ⟨[L], rfl⟩⟩
    · have hk1 : k = ι'.length := by
        have := (List.getElem?_eq_some_iff.mp h1).1
        simp at this
        omega
      subst hk1
      rw [List.getElem?_append_right (Nat.le_refl _), Nat.sub_self] at h1
      rw [R.len, List.getElem?_append_right (Nat.le_refl _), Nat.sub_self] at h2
      cases h1
      cases h2
      exact .inr ⟨nF, o, hL, h.up (Same.refl F') ⟨[L], rfl⟩⟩
variable {ifs : List Expr} {scope : Scope}
/-- [elt for tg in it if ..] that is never changed -/
theorem ze_lc {own : List (Str × Nat)} (hc : X.calm = true) (hN : X.N.Nodup) (ok : BlkOk X.N X.env.scope scope own)
    (h : ZI X tg it Γ M fun ds M1 => ∃ I, LcT X (own.map (·.2)) tg elt ifs scope ds Γ M1 I fun acc M2 => ∃ ys, acc = ys.map .d ∧ Φ (.d (.list ys)) M2) (hs : ∀ x, foldedSetIterable it X.env x = pure x := by intro _; rfl) :
    ZE X (.ListComp elt [⟨tg, it, ifs, 0⟩] scope pos) Γ M Φ := fun F ι σ H R S => by
  refine w_e (pe_lc hc hN pi_w ok pg_b pts_b pe_b hs) (lc_read S R h ?_)
  rintro L H' F' ι' M' acc us E R' hL ha nF nι nH ⟨ys, rfl, φ⟩
  obtain ⟨E2, R2⟩ := out_lay E R' hL nF nι nH
  have sF : Same F' (upd F' L (.lst us)) := fun b x e => by rw [upd_ne (ne_of_none e nF)]; exact e
  exact ⟨_, _, _, .d (.list ys), E2, R2, (show At _ _ _ from .lst upd_same ((RWs.dat ha).up sF)), φ⟩
/-- .. as a new cell -/
theorem ze_lcM {own : List (Str × Nat)} (hc : X.calm = true) (hN : X.N.Nodup) (ok : BlkOk X.N X.env.scope scope own)
    (h : ZI X tg it Γ M fun ds M1 => ∃ I, LcT X (own.map (·.2)) tg elt ifs scope ds Γ M1 I fun acc M2 => Φ (.m M2.length) (M2 ++ [.lst acc])) (hs : ∀ x, foldedSetIterable it X.env x = pure x := by intro _; rfl) :
    ZE X (.ListComp elt [⟨tg, it, ifs, 0⟩] scope pos) Γ M Φ := fun F ι σ H R S => by
  refine w_e (pe_lc hc hN pi_w ok pg_b pts_b pe_b hs) (lc_read S R h ?_)
  rintro L H' F' ι' M' acc us E R' hL ha nF nι nH φ
  obtain ⟨E2, R2⟩ := out_cell (mo := .lst acc) E R' hL nF nι nH ⟨us, rfl, ha⟩
  exact ⟨_, _, _, .m M'.length, E2, R2, RW.m (by rw [← R'.len, List.getElem?_append_right (Nat.le_refl _)]; simp), φ⟩
/-- y = [..], y a plain local -/
theorem zs_setLc (i : Nat) {y : Str} {py spos : Pos} {own : List (Str × Nat)} (hc : X.calm = true) (hN : X.N.Nodup) (ok : BlkOk X.N X.env.scope scope own)
    (h : ZI X tg it Γ M fun ds M1 => ∃ I, LcT X (own.map (·.2)) tg elt ifs scope ds Γ M1 I fun acc M2 => ∃ ys, acc = ys.map .d ∧ D.nx (Γ.set i (some (.d (.list ys)))) M2)
    (hsw : swapsWith (.ListComp elt [⟨tg, it, ifs, 0⟩] scope pos) (some (.Name y py)) spos.line X.env = pure true) (hy : X.N[i]? = some y := by rfl) (hyl : X.env.scope.names.lookup y = some .local := by rfl) (hs : ∀ x, foldedSetIterable it X.env x = pure x := by intro _; rfl) :
    ZS X (.Assign [.Name y py] (.ListComp elt [⟨tg, it, ifs, 0⟩] scope pos) spos) Γ M D := fun F ι σ H R S => by
  refine w_s (ps_setLc hc hN hy hyl hsw pi_w ok pg_b pts_b pe_b hs) (lc_read S R h ?_)
  rintro L H' F' ι' M' acc us E R' hL ha nF nι nH ⟨ys, rfl, φ⟩
  obtain ⟨E2, R2⟩ := out_lay E R' hL nF nι nH
  have sF : Same F' (upd F' L (.lst us)) := fun b x e => by rw [upd_ne (ne_of_none e nF)]; exact e
  exact ⟨_, _, _, _, E2, R2, (E2.slots S).set i (show RW _ _ _ (.d (.list ys)) from .lst upd_same ((RWs.dat ha).up sF)), φ⟩
end
end Z

/-! Z6: the call of a def of the text, its promise over plain data. -/
namespace Z
open PySem PySem.Spec PyProof.Rows L2
/-- what stands around all of the text -/
structure Top where
  P : Program
  w : World
  K : PySem.W.Frag
  mg : Str → Option Value
  base : Heap
/-- what a def does: the arguments, the cells, the wish -/
abbrev ZSp := List W → MS → (W → MS → Prop) → Prop
def zsp (n : Nat) (S : ZSp) : Sp := fun vs H Q _ => vs.length = n ∧ ∃ F ι M ws Φ, Rep F H ι M ∧ RWs F ι vs ws ∧ S ws M Φ ∧ ∀ v H', Post F ι H Φ v H' → Q v H'
/-- the promise of a function object, where nothing is being shown around the call -/
structure FnG (T : Top) (CX : CXT) (k : Nat) (f : Addr) (fd : FuncData) (ps : List Str) (sp : Sp) : Prop where
  len : ∀ vs H Q E, sp vs H Q E → vs.length = ps.length
  run : ∀ (A : Around) (outer : List Env) (s : Shared) (H : Hp) (args : Args) (us : List Value) (vs : List V) (Q : VK) (E : XK), RoomZ k A → Env0 T.P T.w T.K T.mg T.base A outer s H →
    BindsTo s fd args (ps.zip us) → Vals vs us → sp vs H Q E → codeAny (model T.P T.w) A (.call (.ref f) args) (CR CX outer T.P T.w H s Q E) s
theorem FnG.mono {T : Top} {CX : CXT} {j k : Nat} {f : Addr} {fd : FuncData} {ps : List Str} {sp : Sp} (g : FnG T CX j f fd ps sp) (h : j ≤ k) : FnG T CX k f fd ps sp :=
  ⟨g.len, fun A outer s H args us vs Q E hr => g.run A outer s H args us vs Q E (hr.mono h)⟩
/-- the def x of the text keeps the promise S -/
def Fz (T : Top) (k : Nat) (x : Str) (ps : List Str) (S : ZSp) : Prop :=
  ∃ f fd, T.mg x = some (.ref f) ∧ PySem.W.keepIn T.K (.ref f) = true ∧ Binds T.K fd ps [] ∧ FnG T CX0 k f fd ps (zsp ps.length S)
theorem Fz.mono {T : Top} {j k : Nat} {x : Str} {ps : List Str} {S : ZSp} (h : Fz T j x ps S) (l : j ≤ k) : Fz T k x ps S :=
  let ⟨f, fd, a, b, c, d⟩ := h; ⟨f, fd, a, b, c, d.mono l⟩
structure On (T : Top) (X : Cx) : Prop where
  P : X.prog = T.P
  w : X.w = T.w
  K : X.K = T.K
  mg : X.mg = T.mg
  base : X.base = T.base
section
variable {T : Top} {X : Cx} {x : Str} {ps : List Str} {S : ZSp} {k : Nat} {e : Expr} {es : List Expr} {p pos : Pos} {Γ : GS} {M : MS} {Φ : W → MS → Prop}
theorem ze_call (C : Fz T k x ps S) (o : On T X) (hr : RoomZ k X.A) (h : ZA X (e :: es) Γ M fun ws M1 => ws.length = ps.length ∧ S ws M1 Φ) (hg : Gl X x := by rfl) (hdb : (x == ("__debug__" : Str)) = false := by decide)
    (he : starEach (e :: es) X.env = (false, eval e X.env) :: starEach es X.env := by rfl) (hpl : (backTo pos (starEach es X.env)).any (·.1) = false := by rfl) :
    ZE X (.Call (.Name x p) (e :: es) [] pos) Γ M Φ := fun F ι σ H R Sl pins s I => by
  obtain ⟨f, fd, hm, hk, hb, G⟩ := C
  obtain ⟨oP, ow, oK, omg, ob⟩ := o
  refine wpAny_Call_Name_kw (ld_glob I hg (by rw [omg]; exact hm) ?_ hdb)
  refine PySem.W.callWith_K (h₀ := X.base) I.ok.mod.kin (by rw [oK]; exact hk) (thn (h F ι σ H R Sl pos pins s I) ?_) he hpl
  rintro us s1 ⟨vs, H1, I1, r, F1, ι1, M1, ws, E1, R1, rw', hl, hS⟩
  refine ⟨I1.kIn, wpAny_call ?_⟩
  have e0 := I1.env0
  have hv : vs.length = ps.length := by rw [rw'.len]; exact hl
  have hu : us.length = ps.length := by rw [← r.length]; exact hv
  have kin : T.K.In s1.heap := by rw [← oK]; exact I1.kIn
  have hb' := hb s1 us kin (by simpa using hu)
  rw [List.append_nil] at hb'
  rw [oP, ow] at e0 ⊢
  rw [oK, omg, ob] at e0
  refine codeAny_mono (G.run X.A X.stack s1 H1 ⟨us, []⟩ us vs (Post F ι H Φ) E0 hr e0 hb' r ⟨hv, F1, ι1, M1, ws, Φ, R1, rw', hS, fun v H' q => Post.ext E1 q⟩) fun r s' hq => ?_
  cases r with
  | error e => exact False.elim hq
  | ok fl =>
    cases fl with
    | ret u => exact I1.after (by rw [oP, ow]; exact hq)
    | next => exact False.elim hq
    | brk => exact False.elim hq
    | cont => exact False.elim hq
end
/-- the def stands in the text at the module's name x -/
def DefAt (T : Top) (x : Str) (st : Stmt) : Prop := ∃ f fd, Fun T.K x x st f fd ∧ T.mg x = some (.ref f)
/-- the context of its body -/
abbrev dcx (T : Top) (x : Str) (st : Stmt) (N : List Str) (f : Addr) (cdv : Value) (A : Around) (outer : List Env) (s : Shared) (H : Hp) (E : XK) : Cx :=
  (cxOf CX0 T.P T.w T.K T.mg T.base N x (defScope st) f cdv A outer s H E).nox
def startG (N : List Str) (ws : List W) : GS := ws.map some ++ List.replicate (N.length - ws.length) none
theorem slots_start {F : Hp} {ι : List Addr} {N : List Str} {vs : List V} {ws : List W} (r : RWs F ι vs ws) : Slots F ι (L2.start N vs) (startG N ws) := by
  have hl := r.len
  refine ⟨by unfold L2.start startG; rw [List.length_append, List.length_append, List.length_map, List.length_map, List.length_replicate, List.length_replicate, hl], fun i w e => ?_⟩
  unfold startG at e
  by_cases hi : i < ws.length
  · rw [List.getElem?_append_left (by simpa using hi), List.getElem?_map] at e
    unfold L2.start
    rw [List.getElem?_append_left (by simpa [hl] using hi), List.getElem?_map]
    clear hl hi
    induction r generalizing i with
    | nil => simp at e
    | cons a b ih =>
      cases i with
      | zero => simp at e ⊢; subst e; exact a
      | succ i => simpa using ih i (by simpa using e)
  · rw [List.getElem?_append_right (by simpa using hi), List.getElem?_replicate] at e
    split at e <;> cases e
/-- THE RULE for a def -/
theorem fz_of {T : Top} {x : Str} {st : Stmt} {N ps : List Str} {k : Nat} {S : ZSp} (D : DefAt T x st) (Sc : FnScope N ps (defScope st))
    (hb : ∀ (kV doc pm : Value) (an : Option Addr) (cdv ct : Value) (us : List Value), us.length = ps.length → bindArgs (PySem.W.fnOf x x (defArgs st) (defBody st) (defScope st) .none kV doc pm an cdv ct) ⟨us, []⟩ = pure (ps.zip us))
    (body : ∀ (f : Addr) (cdv : Value) (A : Around) (outer : List Env) (s : Shared) (H : Hp) (E : XK) (ws : List W) (M : MS) (Φ : W → MS → Prop), RoomZ k (A.deeper (envOfC x (defScope st) s.heap.objs.size f cdv)) → ws.length = ps.length → S ws M Φ →
      ZSs (dcx T x st N f cdv A outer s H E) (defBody st) (startG N ws) M { nx := fun _ M' => Φ (.d .none) M', rt := Φ }) : Fz T (k + 1) x ps S := by
  obtain ⟨f, fd, F, hmg⟩ := D
  have hbi := F.binds hb
  refine ⟨f, fd, hmg, F.kp, hbi, ⟨fun vs H Q E h => h.1, fun A outer s H args us vs Q E hr e0 hB r hsp => ?_⟩⟩
  obtain ⟨oc, od, kV, doc, pm, an, cdv, ct, osl, rfl, lk, hcd⟩ := F.ex
  obtain ⟨hl, F1, ι, M, ws, Φ, R, rws, hS, hQ⟩ := hsp
  have KX : T.K.In s.heap := e0.mod.kin.keeps fun b o e => (e0.bs b o e).1
  have lim : s.heap.NoLimit := e0.mod.nolimit.keeps fun b o e => (e0.bs b o e).1
  have kinds : ∀ y ∈ ps.zip us, (defScope st).names.lookup y.1 = some .local ∨ ((defScope st).names.lookup y.1 = some .cell ∧ ((cellsFrom (s.heap.objs.size + 1) (defScope st).names []).lookup y.1).isSome = true) := by
    rintro ⟨n, v⟩ hy
    exact (Sc.par n (List.of_mem_zip hy).1).imp id fun q => ⟨q, PySem.W.cellsFrom_some _ _ _ (.inl q)⟩
  refine codeAny_call_function hr.r.depth (KX _ _ lk) rfl Sc.co Sc.gen rfl (PySem.W.codeRec_of KX hcd) (hB _ _ _ _ ?_)
  refine wpAny_newFunctionEnv_cells Sc.kind kinds fun env he s1 x' => ?_
  subst he
  refine ⟨lim.keeps x'.toInCall.keep, codeAny_func ?_⟩
  have b := body f cdv A outer s H E ws M Φ (hr.deeper _) (by rw [← rws.len]; exact hl) hS F1 ι _ H R (slots_start (N := N) rws)
  have I : Inv (cxOf CX0 T.P T.w T.K T.mg T.base N x (defScope st) f cdv A outer s H E) [] (L2.start N vs) H s1 := inv_start Sc hr.r.hd e0 hl r x'
  have fin : ∀ {σ' : St} {H' : Hp} {v : V} {u : Value} {s' : Shared}, Inv (dcx T x st N f cdv A outer s H E) [] σ' H' s' → RelV v u → Post F1 ι H Φ v H' → CE outer T.P T.w H s Q u s' :=
    fun J rv q => ⟨_, _, J.os, J.bare, J.base, J.hok, rv, hQ _ _ q⟩
  refine wpAny_mono (b [] s1 (I.wish _)) (fun fl s' hs => ?_) fun e s' hs => False.elim hs
  cases fl with
  | ret u =>
    obtain ⟨v, σ', H', J, rv, q⟩ := hs
    exact fin J rv q
  | next =>
    obtain ⟨σ', H', J, F2, ι2, M2, Γ2, E2, R2, _, q⟩ := hs
    exact fin (v := V.non) (u := Value.none) J rfl ⟨F2, ι2, M2, .d .none, E2, R2, At.non, q⟩
  | brk =>
    obtain ⟨_, _, _, F2, ι2, M2, Γ2, E2, R2, _, q⟩ := hs
    exact False.elim q
  | cont =>
    obtain ⟨_, _, _, F2, ι2, M2, Γ2, E2, R2, _, q⟩ := hs
    exact False.elim q
end Z

/-! Z7: subscripts, slices, methods, calls of built-in functions. -/
namespace Z
open PySem PySem.Spec PyProof.Rows L2
section
variable {X : Cx} {k : Nat} {a b e f : Expr} {es : List Expr} {pos p apos cpos : Pos} {Γ : GS} {M : MS} {Φ : W → MS → Prop}

/-! ### ==, in -/
def EqW (x y : W) (M : MS) (Ψ : Bool → MS → Prop) : Prop := ∃ d e, x = .d d ∧ y = .d e ∧ SeqAt.shaped d = true ∧ SeqAt.shaped e = true ∧ Ψ (PyData.eqv d e) M
theorem zc_eq (hr : RoomZ k X.A) (h : ZE X a Γ M fun x M1 => ZE X b Γ M1 fun y M2 => EqW x y M2 fun r M3 => Φ (.d (.bool r)) M3) : ZC X .Eq a b Γ M Φ :=
  zc (op_eqZ hr) h fun F ι H M v u x y Q R rx ry ψ hQ => by
    obtain ⟨d, e, rfl, rfl, s1, s2, φ⟩ := ψ
    exact ⟨F, d, e, R.sub, rx, ry, s1, s2, hQ _ _ (Post.dat R (.bl _) φ)⟩
theorem zc_ne (hr : RoomZ k X.A) (h : ZE X a Γ M fun x M1 => ZE X b Γ M1 fun y M2 => EqW x y M2 fun r M3 => Φ (.d (.bool (!r))) M3) : ZC X .NotEq a b Γ M Φ :=
  zc (op_neZ hr) h fun F ι H M v u x y Q R rx ry ψ hQ => by
    obtain ⟨d, e, rfl, rfl, s1, s2, φ⟩ := ψ
    exact ⟨F, d, e, R.sub, rx, ry, s1, s2, hQ _ _ (Post.dat R (.bl _) φ)⟩
def lookK {α : Type} (kws : List (Key × α)) (k : Key) : Option α := (kws.find? fun kv => decide (kv.1 = k)).map (·.2)
/-- a dict of data by its keys -/
def dictK (kws : List (Key × PyData)) : PyData := .dict (kws.map fun q => (keyD q.1, q.2))
theorem keyD_inj : ∀ {a b : Key}, keyD a = keyD b → a = b
  | .inl _, .inl _, h => by injection h with h; rw [h]
  | .inr _, .inr _, h => by injection h with h; rw [h]
  | .inl _, .inr _, h => nomatch h
  | .inr _, .inl _, h => nomatch h
theorem AtKv.look {F : Hp} : ∀ {kvs : List (Key × V)} {kws : List (Key × PyData)}, AtKv F kvs (kws.map fun q => (keyD q.1, q.2)) → ∀ k, (∀ d, lookK kws k = some d → ∃ v, valV kvs k = some v ∧ At F v d) ∧ (lookK kws k = none → valV kvs k = none)
  | _, [], h, k => by cases h; exact ⟨fun d e => (nomatch e), fun _ => rfl⟩
  | _, (q, d) :: r, h, k => by
    generalize hz : ((q, d) :: r).map (fun q : Key × PyData => (keyD q.1, q.2)) = z at h
    cases h with
    | nil => cases hz
    | @cons q' v vs d' ds a b =>
      injection hz with h1 h2
      injection h1 with h3 h4
      have e : q = q' := keyD_inj h3
      subst e h4 h2
      obtain ⟨i1, i2⟩ := AtKv.look b k
      by_cases e : q = k
      · subst e
        refine ⟨fun d2 e2 => ?_, fun e2 => ?_⟩
        · simp [lookK] at e2
          subst e2
          exact ⟨v, by simp [valV], a⟩
        · simp [lookK] at e2
      · have e1 : lookK ((q, d) :: r) k = lookK r k := by simp [lookK, List.find?_cons, e]
        have e2 : valV ((q, v) :: vs) k = valV vs k := by simp [valV, List.find?_cons, e]
        rw [e1, e2]
        exact ⟨i1, i2⟩
theorem RKs.look {F : Hp} {ι : List Addr} {k : Key} : ∀ {kvs : List (Key × V)} {kws : List (Key × W)}, RKs F ι kvs kws → (∀ d, lookK kws k = some d → ∃ v, valV kvs k = some v ∧ RW F ι v d) ∧ (lookK kws k = none → valV kvs k = none)
  | _, _, .nil => ⟨fun d e => (nomatch e), fun _ => rfl⟩
  | _, _, .cons (a := q1) (b := q2) (l₁ := r1) (l₂ := r2) h t => by
    obtain ⟨i1, i2⟩ := RKs.look (k := k) t
    obtain ⟨k1, v1⟩ := q1
    obtain ⟨k2, w2⟩ := q2
    obtain ⟨e0, h⟩ := h
    have e0 : k1 = k2 := e0
    subst e0
    by_cases e : k1 = k
    · subst e
      refine ⟨fun d2 e2 => ?_, fun e2 => ?_⟩
      · simp [lookK] at e2
        subst e2
        exact ⟨v1, by simp [valV], h⟩
      · simp [lookK] at e2
    · have e1 : lookK ((k1, w2) :: r2) k = lookK r2 k := by simp [lookK, List.find?_cons, e]
      have e2 : valV ((k1, v1) :: r1) k = valV r1 k := by simp [valV, List.find?_cons, e]
      rw [e1, e2]
      exact ⟨i1, i2⟩
theorem kV_at {F : Hp} {k : Key} {v : V} (h : At F v (keyD k)) : v = kV k := by
  cases k with
  | inl i => exact h.int_
  | inr x => exact h.str_
/-- the item of a dict -/
def GetW (x : W) (k : Key) (M : MS) (o : Option W) : Prop := (∃ kws, x = .d (dictK kws) ∧ o = (lookK kws k).map .d) ∨ ∃ j kws, x = .m j ∧ M[j]? = some (.dic kws) ∧ o = lookK kws k
theorem get_ok {F H : Hp} {ι : List Addr} {x : W} {v u : V} {k : Key} {o : Option W} (R : Rep F H ι M) (rx : RW F ι v x) (ru : At F u (keyD k)) (g : GetW x k M o) :
    ∃ a ov, v = .ref a ∧ DGet H a u ov ∧ (∀ w, o = some w → ∃ z, ov = some z ∧ RW F ι z w) ∧ (o = none → ov = none) := by
  have eu := kV_at ru
  subst eu
  rcases g with ⟨kws, rfl, rfl⟩ | ⟨j, kws, rfl, hm, rfl⟩
  · obtain ⟨a, kvs, rfl, f, r⟩ := At.dic_ rx
    obtain ⟨i1, i2⟩ := r.look k
    refine ⟨a, valV kvs k, rfl, .k (R.sub _ _ f), fun w e => ?_, fun e => i2 (by simpa using e)⟩
    cases q : lookK kws k with
    | none => rw [q] at e; cases e
    | some d =>
      rw [q] at e; cases e
      exact i1 d q
  · obtain ⟨a, ha, rfl⟩ := rx
    rcases R.at_ j a _ ha hm with z | ⟨_, ob, h1, kvs, rfl, r⟩
    · cases z
    · obtain ⟨i1, i2⟩ := RKs.look (k := k) r
      exact ⟨a, valV kvs k, rfl, .k h1, i1, i2⟩
def InW (x y : W) (M : MS) (Ψ : Bool → MS → Prop) : Prop :=
  (∃ d es, x = .d d ∧ (y = .d (.list es) ∨ y = .d (.tuple es)) ∧ SeqAt.shaped d = true ∧ PyData.canLayAll0 es = true ∧ Ψ (es.any fun z => PyData.eqv z d) M) ∨
  ∃ k o, x = .d (keyD k) ∧ GetW y k M o ∧ Ψ o.isSome M
theorem some_iff {F : Hp} {ι : List Addr} {o : Option W} {ov : Option V} (h1 : ∀ w, o = some w → ∃ z, ov = some z ∧ RW F ι z w) (h2 : o = none → ov = none) : ov.isSome = o.isSome := by
  cases o with
  | none => rw [h2 rfl]; rfl
  | some w => obtain ⟨z, e, _⟩ := h1 w rfl; rw [e]; rfl
theorem zc_in (hr : RoomZ k X.A) (h : ZE X a Γ M fun x M1 => ZE X b Γ M1 fun y M2 => InW x y M2 fun r M3 => Φ (.d (.bool r)) M3) : ZC X .In a b Γ M Φ :=
  zc ((op_inZ hr).or (op_inDk hr)) h fun F ι H M v u x y Q R rx ry ψ hQ => by
    rcases ψ with ⟨d, es, rfl, hy, s1, s2, φ⟩ | ⟨q, o, rfl, g, φ⟩
    · refine .inl ⟨F, d, es, R.sub, rx, ?_, s1, s2, hQ _ _ (Post.dat R (.bl _) φ)⟩
      rcases hy with rfl | rfl
      · exact .inl ry
      · exact .inr ry
    · obtain ⟨c, ov, rfl, dg, i1, i2⟩ := get_ok R ry rx g
      exact .inr ⟨c, ov, rfl, dg, hQ _ _ (Post.dat R (by rw [some_iff i1 i2]; exact .bl _) φ)⟩
theorem zc_notIn (hr : RoomZ k X.A) (h : ZE X a Γ M fun x M1 => ZE X b Γ M1 fun y M2 => InW x y M2 fun r M3 => Φ (.d (.bool (!r))) M3) : ZC X .NotIn a b Γ M Φ :=
  zc ((op_notInZ hr).or (op_notInDk hr)) h fun F ι H M v u x y Q R rx ry ψ hQ => by
    rcases ψ with ⟨d, es, rfl, hy, s1, s2, φ⟩ | ⟨q, o, rfl, g, φ⟩
    · refine .inl ⟨F, d, es, R.sub, rx, ?_, s1, s2, hQ _ _ (Post.dat R (.bl _) φ)⟩
      rcases hy with rfl | rfl
      · exact .inl ry
      · exact .inr ry
    · obtain ⟨c, ov, rfl, dg, i1, i2⟩ := get_ok R ry rx g
      exact .inr ⟨c, ov, rfl, dg, hQ _ _ (Post.dat R (by rw [some_iff i1 i2]; exact .bl _) φ)⟩

/-! ### x[i] -/
def rIxDk : R2 := fun x y H Q => ∃ c v, x = .ref c ∧ DGet H c y (some v) ∧ Q v H
theorem ix_dk (hr : RoomZ k X.A) : IxR X rIxDk := by
  intro value slice pins s σ H x y v u Q I rx ry ⟨c, z, e, g, q⟩ hs
  subst e
  obtain rfl : v = Value.ref c := rx
  have tyd := dict_typeIs I g
  unfold subscriptTail
  refine wpAny_bind ?_
  rw [getitemInPython_of_ne tyd.not_modules]
  refine wpAny_bind (wpAny_specialOf tyd PySem.F.slot_dict_getitem.lookup ?_)
  have fin : wpAny (model X.prog X.w) X.A (subscripted slice false (.ref c) u) (fun r s3 => wpAny (model X.prog X.w) X.A (letTemporaryGo value (.ref c) r >>= fun _ => pure r) (EP X pins σ Q) X.xe s3) X.xe s := by
    rw [hs]
    refine wpAny_operating (wpAny_mono (d_getItem hr.hu I g ry (Q := EP X pins σ Q) fun w' s3 I3 rw' => ⟨z, H, I3, rw', q⟩) (fun r s3 h3 => wpAny_bind (wpAny_letTemporaryGo (wpAny_pure h3))) fun _ _ x => x)
  first
    | exact wpAny_pure (wpAny_bind fin)
    | exact wpAny_bind (wpAny_pure (wpAny_bind fin))
    | exact wpAny_bind fin
def IxW (x y : W) (M : MS) (Φ : W → MS → Prop) : Prop :=
  (∃ ds i d, (x = .d (.list ds) ∨ x = .d (.tuple ds)) ∧ y = .d (.int i) ∧ atI ds i = some d ∧ Φ (.d d) M) ∨
  (∃ j ws i w, x = .m j ∧ M[j]? = some (.lst ws) ∧ y = .d (.int i) ∧ atI ws i = some w ∧ Φ w M) ∨ ∃ q w, y = .d (keyD q) ∧ GetW x q M (some w) ∧ Φ w M
theorem IxW.list {ds : List PyData} {i : Int} {d : PyData} (h : atI ds i = some d) (φ : Φ (.d d) M) : IxW (.d (.list ds)) (.d (.int i)) M Φ := .inl ⟨ds, i, d, .inl rfl, rfl, h, φ⟩
theorem IxW.tuple {ds : List PyData} {i : Int} {d : PyData} (h : atI ds i = some d) (φ : Φ (.d d) M) : IxW (.d (.tuple ds)) (.d (.int i)) M Φ := .inl ⟨ds, i, d, .inr rfl, rfl, h, φ⟩
theorem IxW.cell {j : Nat} {ws : List W} {i : Int} {w : W} (hm : M[j]? = some (.lst ws)) (h : atI ws i = some w) (φ : Φ w M) : IxW (.m j) (.d (.int i)) M Φ := .inr (.inl ⟨j, ws, i, w, rfl, hm, rfl, h, φ⟩)
theorem IxW.get {x : W} {q : Key} {w : W} (g : GetW x q M (some w)) (φ : Φ w M) : IxW x (.d (keyD q)) M Φ := .inr (.inr ⟨q, w, rfl, g, φ⟩)
theorem pair_get {α β : Type} {R : α → β → Prop} : ∀ {xs : List α} {ys : List β} {j : Nat} {y : β}, Paired R xs ys → ys[j]? = some y → ∃ x, xs[j]? = some x ∧ R x y
  | _, _, _, _, .nil, e => by simp at e
  | _, _, 0, _, .cons a _, e => by simp at e; subst e; exact ⟨_, rfl, a⟩
  | _, _, j + 1, _, .cons _ b, e => pair_get (j := j) b e
theorem at_rel {α β : Type} {R : α → β → Prop} {xs : List α} {ys : List β} {i : Int} {y : β} (h : Paired R xs ys) (e : atI ys i = some y) : ∃ x, atI xs i = some x ∧ R x y := by
  unfold atI at e ⊢
  rw [Paired.length h]
  cases q : ixN ys.length i with
  | none => rw [q] at e; cases e
  | some j =>
    rw [q] at e
    exact pair_get h e
theorem AtAll.paired {F : Hp} : ∀ {vs : List V} {ds : List PyData}, AtAll F vs ds → Paired (At F) vs ds
  | _, _, .nil => .nil
  | _, _, .cons a b => .cons a b.paired
theorem ze_ix (hr : RoomZ k X.A) (h : ZE X a Γ M fun x M1 => ZE X b Γ M1 fun y M2 => IxW x y M2 Φ) (hs : PlainIx b := by exact fun _ _ => rfl) : ZE X (.Subscript a b pos) Γ M Φ :=
  z2 (pe_ix (ix_seq.or (ix_dk hr)) pe_w pe_w hs) h fun F ι H M v u x y Q R rx ry ψ hQ => by
    rcases ψ with ⟨ds, i, d, hx, rfl, e, φ⟩ | ⟨j, ws, i, w, rfl, hm, rfl, e, φ⟩ | ⟨q, w, rfl, g, φ⟩
    · rcases hx with rfl | rfl
      · obtain ⟨c, vs, rfl, f, r⟩ := At.lst_ rx
        obtain ⟨z, e1, rz⟩ := at_rel r.paired e
        exact .inl (.inl ⟨c, vs, i, z, rfl, At.int_ ry, .of (R.sub _ _ f), e1, hQ _ _ (Post.dat R rz φ)⟩)
      · obtain ⟨c, vs, rfl, f, r⟩ := At.tup_ rx
        obtain ⟨z, e1, rz⟩ := at_rel r.paired e
        exact .inl (.inr (.inl ⟨c, vs, i, z, rfl, At.int_ ry, .of (R.sub _ _ f), e1, hQ _ _ (Post.dat R rz φ)⟩))
    · obtain ⟨c, hc, rfl⟩ := rx
      rcases R.at_ j c _ hc hm with z | ⟨_, ob, h1, vs, rfl, r⟩
      · cases z
      · obtain ⟨z, e1, rz⟩ := at_rel r e
        exact .inl (.inl ⟨c, vs, i, z, rfl, At.int_ ry, .of h1, e1, hQ _ _ (Post.ret R rz φ)⟩)
    · obtain ⟨c, ov, rfl, dg, i1, _⟩ := get_ok R rx ry g
      obtain ⟨z, rfl, rz⟩ := i1 w rfl
      exact .inr ⟨c, z, rfl, dg, hQ _ _ (Post.ret R rz φ)⟩

/-! ### slices -/
def cutD {α : Type} (xs : List α) (lo hi : Option Int) : List α := (xs.drop (HT.sIx xs.length 0 lo)).take (HT.sIx xs.length xs.length hi - HT.sIx xs.length 0 lo)
theorem cut_rel {F : Hp} {vs : List V} {ds : List PyData} (r : AtAll F vs ds) (lo hi : Option Int) : AtAll F (cutV vs lo hi) (cutD ds lo hi) := by
  unfold cutV cutD
  rw [r.len]
  exact (r.drop _).take _
def ZP (X : Cx) (e : Option Expr) (Γ : GS) (M : MS) (Ψ : Option Int → MS → Prop) : Prop := ∀ F ι σ H, Rep F H ι M → Slots F ι σ Γ → ∃ t, PO X e t ∧ t σ H fun o H' => ∃ F' ι' M', Ext F ι H F' ι' H' ∧ Rep F' H' ι' M' ∧ Ψ o M'
theorem zp_none {Ψ : Option Int → MS → Prop} (h : Ψ none M) : ZP X none Γ M Ψ := fun F ι σ H R S => ⟨_, po_none, F, ι, M, Ext.refl F ι H, R, h⟩
theorem zp_some {Ψ : Option Int → MS → Prop} (h : ZE X e Γ M fun w M1 => ∃ i, w = .d (.int i) ∧ Ψ (some i) M1) : ZP X (some e) Γ M Ψ := fun F ι σ H R S => by
  refine ⟨_, po_some pe_w, (h F ι σ H R S).mono ?_⟩
  rintro v H1 ⟨F1, ι1, M1, w, E1, R1, r, i, rfl, q⟩
  exact ⟨i, At.int_ r, F1, ι1, M1, E1, R1, q⟩
def wP (X : Cx) (e : Option Expr) : TO := fun σ H Q => ∀ pins s, Inv X pins σ H s → wpAny (model X.prog X.w) X.A (evalPart e X.env) (fun u s' => ∃ o H', Inv X pins σ H' s' ∧ IsPart u o ∧ Q o H') X.xe s
theorem po_w {e : Option Expr} : PO X e (wP X e) := ⟨fun pins s _ _ _ I h => h pins s I⟩
def SlW (x : W) (lo hi : Option Int) (M : MS) (Φ : W → MS → Prop) : Prop := (∃ ds, x = .d (.list ds) ∧ Φ (.d (.list (cutD ds lo hi))) M) ∨ ∃ ds, x = .d (.tuple ds) ∧ Φ (.d (.tuple (cutD ds lo hi))) M
theorem SlW.list {ds : List PyData} {lo hi : Option Int} (h : Φ (.d (.list (cutD ds lo hi))) M) : SlW (.d (.list ds)) lo hi M Φ := .inl ⟨ds, rfl, h⟩
theorem SlW.tuple {ds : List PyData} {lo hi : Option Int} (h : Φ (.d (.tuple (cutD ds lo hi))) M) : SlW (.d (.tuple ds)) lo hi M Φ := .inr ⟨ds, rfl, h⟩
theorem ze_sl {lo hi : Option Expr} {p2 : Pos} (h : ZE X a Γ M fun x M1 => ZP X lo Γ M1 fun l M2 => ZP X hi Γ M2 fun u M3 => SlW x l u M3 Φ) : ZE X (.Subscript a (.Slice lo hi none p2) pos) Γ M Φ := fun F ι σ H R S => by
  refine w_e (pe_slice (sl_list.or sl_tupA) pe_w po_w po_w) ((h F ι σ H R S).mono ?_)
  rintro v H1 ⟨F1, ι1, M1, x, E1, R1, rx, hl⟩
  intro pins s I
  obtain ⟨t1, p1, q1⟩ := hl F1 ι1 σ H1 R1 (E1.slots S)
  refine thn (p1.run pins s σ H1 _ I q1) ?_
  rintro u1 s1 ⟨o1, H2, I2, ip1, F2, ι2, M2, E2, R2, hu⟩
  refine ⟨o1, H2, I2, ip1, fun pins s I => ?_⟩
  obtain ⟨t2, p2, q2⟩ := hu F2 ι2 σ H2 R2 ((E1.trans E2).slots S)
  refine thn (p2.run pins s σ H2 _ I q2) ?_
  rintro u2 s2 ⟨o2, H3, I3, ip2, F3, ι3, M3, E3, R3, hS⟩
  refine ⟨o2, H3, I3, ip2, ?_⟩
  have E13 := (E1.trans E2).trans E3
  have rx3 := (E2.trans E3).rw rx
  have up : ∀ z H', Post F3 ι3 H3 Φ z H' → Post F ι H Φ z H' := fun z H' q => Post.ext E13 q
  rcases hS with ⟨ds, rfl, φ⟩ | ⟨ds, rfl, φ⟩
  · obtain ⟨c, vs, rfl, f, r⟩ := At.lst_ rx3
    exact .inl ⟨c, vs, rfl, .of (R3.sub _ _ f), lay_lst R3 (cut_rel r o1 o2) φ up⟩
  · obtain ⟨c, vs, rfl, f, r⟩ := At.tup_ rx3
    refine .inr ⟨c, vs, rfl, .of (R3.sub _ _ f), fun hw => up _ _ (Post.dat R3 (.tup f ?_) φ), fun _ => lay_tup R3 (cut_rel r o1 o2) φ up⟩
    have : cutD ds o1 o2 = ds := by
      unfold cutD
      rw [← r.len, hw.1, hw.2, List.drop_zero, Nat.sub_zero, r.len, List.take_length]
    rw [this]; exact r
end
end Z

/-! Z8: methods, stores, calls of built-in functions. -/
namespace Z
open PySem PySem.Spec PyProof.Rows L2
/-! ### sorting as a function -/
def sortI (ns : List Int) : List Int := ns.mergeSort fun a b => decide (a ≤ b)
theorem sortI_perm (ns : List Int) : (sortI ns).Perm ns := List.mergeSort_perm _ _
theorem sortI_pw (ns : List Int) : (sortI ns).Pairwise (· ≤ ·) := by
  have h := List.pairwise_mergeSort (le := fun a b : Int => decide (a ≤ b)) (fun a b c h1 h2 => by simp at *; omega) (fun a b => by simp; omega) ns
  exact h.imp fun h => by simpa using h
theorem sortI_of {ns ms : List Int} (h : ms.Perm ns) (p : ms.Pairwise (· ≤ ·)) : ms = sortI ns :=
  List.Perm.eq_of_pairwise (fun a b _ _ h1 h2 => Int.le_antisymm h1 h2) p (sortI_pw ns) (h.trans (sortI_perm ns).symm)
def leS (a b : Str) : Bool := !decide (b.cps.toList < a.cps.toList)
theorem leS_trans {a b c : Str} (h1 : leS a b = true) (h2 : leS b c = true) : leS a c = true := by
  unfold leS at *
  simp at *
  exact List.le_trans h1 h2
theorem leS_trans' (a b c : Str) (h1 : leS a b = true) (h2 : leS b c = true) : leS a c = true := leS_trans h1 h2
theorem leS_total (a b : Str) : (leS a b || leS b a) = true := by
  unfold leS
  have := List.le_total a.cps.toList b.cps.toList
  simpa using this
theorem leS_anti {a b : Str} (h1 : leS a b = true) (h2 : leS b a = true) : a = b := by
  unfold leS at *
  simp at *
  have e := List.le_antisymm h1 h2
  obtain ⟨⟨x⟩⟩ := a
  obtain ⟨⟨y⟩⟩ := b
  simp at e
  rw [e]
def sortS (xs : List Str) : List Str := xs.mergeSort leS
theorem sortS_perm (ns : List Str) : (sortS ns).Perm ns := List.mergeSort_perm _ _
theorem sortS_pw (ns : List Str) : (sortS ns).Pairwise fun a b => leS a b = true := List.pairwise_mergeSort (le := leS) leS_trans' leS_total ns
theorem sortS_of {ns ms : List Str} (h : ms.Perm ns) (p : ms.Pairwise fun a b => leS a b = true) : ms = sortS ns :=
  List.Perm.eq_of_pairwise (fun a b _ _ h1 h2 => leS_anti h1 h2) p (sortS_pw ns) (h.trans (sortS_perm ns).symm)
theorem rising_pw : ∀ (xs : List Str) (x : Str), PyProof.Rows.risingS x xs = true → (x :: xs).Pairwise fun a b => leS a b = true
  | [], x, _ => by simp
  | y :: r, x, h => by
    obtain ⟨h1, h2⟩ := Bool.and_eq_true_iff.mp (show (!ltCps y.cps.toList x.cps.toList && PyProof.Rows.risingS y r) = true from h)
    have e : ltCps y.cps.toList x.cps.toList = decide (y.cps.toList < x.cps.toList) := ltCps_eq _ _
    rw [e] at h1
    have p := rising_pw r y h2
    refine .cons (fun z hz => ?_) p
    rcases List.mem_cons.mp hz with rfl | hz
    · exact h1
    · exact leS_trans h1 (List.rel_of_pairwise_cons p hz)
theorem sorted_pw {xs : List Str} (h : PyProof.Rows.sortedS xs = true) : xs.Pairwise fun a b => leS a b = true := by
  cases xs with
  | nil => exact .nil
  | cons x r => exact rising_pw r x h

section
variable {X : Cx} {k : Nat} {a b e f o : Expr} {es : List Expr} {pos p apos cpos : Pos} {Γ : GS} {M : MS} {Φ : W → MS → Prop}
/-! ### methods of lists -/
def IsLst (w : W) (M : MS) : Prop := (∃ ds, w = .d (.list ds)) ∨ ∃ j ws, w = .m j ∧ M[j]? = some (.lst ws)
theorem IsLst.at {F H : Hp} {ι : List Addr} {w : W} {v : V} (R : Rep F H ι M) (r : RW F ι v w) (h : IsLst w M) : ∃ c vs, v = .ref c ∧ H c = some (.lst vs) := by
  rcases h with ⟨ds, rfl⟩ | ⟨j, ws, rfl, hm⟩
  · obtain ⟨c, vs, rfl, f, _⟩ := At.lst_ r
    exact ⟨c, vs, rfl, R.sub _ _ f⟩
  · obtain ⟨c, hc, rfl⟩ := r
    rcases R.at_ j c _ hc hm with z | ⟨_, ob, h1, vs, rfl, _⟩
    · cases z
    · exact ⟨c, vs, rfl, h1⟩
/-- the looks of a method's call -/
structure MSyn (X : Cx) (o : Expr) (name : Str) (e : Expr) (es : List Expr) (apos cpos : Pos) : Prop where
  base : attributeBase o name X.env (eval o X.env) = eval o X.env
  few : ((backTo cpos (starEach (e :: es) X.env)).all (fun x => !x.1) && (backToKw cpos (keywordEach [] X.env)).all (fun x => x.1.isSome)
      && decide ((e :: es).length + ([] : List Keyword).length + (if ([] : List Keyword).isEmpty then 0 else 1) < 30)) = true
  line : (apos.endLine == cpos.line) = true
  star : starEach (e :: es) X.env = (false, eval e X.env) :: starEach es X.env
  plain : (backTo cpos (starEach es X.env)).any (·.1) = false
theorem RW.dat {F : Hp} {ι : List Addr} {v : V} {x : PyData} (h : At F v x) : RW F ι v (.d x) := h
theorem zm_list {id : String} {name : Str} {r : V → List V → Hp → VK → Prop} {Ψ : W → List W → MS → Prop} (slot : Slot "list" name id) (hty : typeOf (.builtin id) = pure (.type "method_descriptor")) (hm : MtR X id r)
    (h : ZE X o Γ M fun x M1 => IsLst x M1 ∧ ZA X (e :: es) Γ M1 fun xs M2 => Ψ x xs M2)
    (hr : ∀ F ι H M v x vs xs Q, Rep F H ι M → RW F ι v x → RWs F ι vs xs → Ψ x xs M → (∀ z H', Post F ι H Φ z H' → Q z H') → r v vs H Q)
    (sy : MSyn X o name e es apos cpos) : ZE X (.Call (.Attribute o name apos) (e :: es) [] cpos) Γ M Φ := fun F ι σ H R S => by
  refine w_e (pe_bm PySem.F.plainAttrs_list slot hty hm pe_w pa_w sy.base sy.few sy.line sy.star sy.plain) ((h F ι σ H R S).mono ?_)
  rintro v H1 ⟨F1, ι1, M1, x, E1, R1, rx, hl, ha⟩
  obtain ⟨c, vs, rfl, h1⟩ := hl.at R1 rx
  refine ⟨.inl ⟨rfl, vs, .of h1⟩, (ha F1 ι1 σ H1 R1 (E1.slots S)).mono ?_⟩
  rintro us H2 ⟨F2, ι2, M2, ws, E2, R2, rs, ψ⟩
  exact hr F2 ι2 H2 M2 _ x us ws _ R2 (E2.rw rx) rs ψ fun z H' q => Post.ext (E1.trans E2) q
theorem cell_at {F H : Hp} {ι : List Addr} {j : Nat} {ws : List W} {v : V} (R : Rep F H ι M) (r : RW F ι v (.m j)) (hm : M[j]? = some (.lst ws)) : ∃ c vs, v = .ref c ∧ ι[j]? = some c ∧ H c = some (.lst vs) ∧ RWs F ι vs ws := by
  obtain ⟨c, hc, rfl⟩ := r
  rcases R.at_ j c _ hc hm with z | ⟨_, ob, h1, vs, rfl, q⟩
  · cases z
  · exact ⟨c, vs, rfl, hc, h1, q⟩
theorem cell_put {F H : Hp} {ι : List Addr} {j : Nat} {ws ws' : List W} {c : Addr} {vs' : List V} {Q : VK} {v : V} {w : W} (R : Rep F H ι M) (hc : ι[j]? = some c) (hm : M[j]? = some (.lst ws)) (r : RWs F ι vs' ws') (rv : RW F ι v w) (φ : Φ w (M.set j (.lst ws')))
    (hQ : ∀ z H', Post F ι H Φ z H' → Q z H') : Q v (upd H c (.lst vs')) := by
  obtain ⟨E, R'⟩ := R.put (mo := .lst ws') hc hm (by intro z; cases z) ⟨vs', rfl, r⟩
  exact hQ _ _ (Post.ext E (Post.ret R' rv φ))
theorem RWs.take {F : Hp} {ι : List Addr} : ∀ {vs : List V} {ws : List W} (n : Nat), RWs F ι vs ws → RWs F ι (vs.take n) (ws.take n)
  | _, _, 0, _ => .nil
  | _, _, _ + 1, .nil => .nil
  | _, _, n + 1, .cons a b => .cons a (RWs.take n b)
theorem RWs.drop {F : Hp} {ι : List Addr} : ∀ {vs : List V} {ws : List W} (n : Nat), RWs F ι vs ws → RWs F ι (vs.drop n) (ws.drop n)
  | _, _, 0, h => h
  | _, _, _ + 1, .nil => .nil
  | _, _, n + 1, .cons _ b => RWs.drop n b
theorem RWs.set {F : Hp} {ι : List Addr} {v : V} {w : W} (r : RW F ι v w) : ∀ {vs : List V} {ws : List W} (n : Nat), RWs F ι vs ws → RWs F ι (vs.set n v) (ws.set n w)
  | _, _, _, .nil => .nil
  | _, _, 0, .cons _ b => .cons r b
  | _, _, n + 1, .cons a b => .cons a (RWs.set r n b)
theorem Ext.rks {F F1 H H1 : Hp} {ι ι1 : List Addr} (x : Ext F ι H F1 ι1 H1) {vs : List (Key × V)} {ws : List (Key × W)} (h : RKs F ι vs ws) : RKs F1 ι1 vs ws := Paired.mapP h fun _ _ r => ⟨r.1, x.rw r.2⟩
theorem RWs.erase {F : Hp} {ι : List Addr} : ∀ {vs : List V} {ws : List W} (n : Nat), RWs F ι vs ws → RWs F ι (vs.eraseIdx n) (ws.eraseIdx n)
  | _, _, _, .nil => .nil
  | _, _, 0, .cons _ b => b
  | _, _, n + 1, .cons a b => .cons a (RWs.erase n b)
/-- xs.append(e) -/
theorem zm_append (h : ZE X o Γ M fun x M1 => IsLst x M1 ∧ ZE X e Γ M1 fun y M2 => ∃ j ws, x = .m j ∧ M2[j]? = some (.lst ws) ∧ ws.length < sizeLine ∧ Φ (.d .none) (M2.set j (.lst (ws ++ [y]))))
    (sy : MSyn X o "append" e [] apos cpos := by exact ⟨by rfl, by rfl, by rfl, by rfl, by rfl⟩) : ZE X (.Call (.Attribute o "append" apos) [e] [] cpos) Γ M Φ :=
  zm_list PySem.F.slot_list_append PySem.F.type_list_append mt_append (Ψ := fun x xs M2 => ∃ j ws y, xs = [y] ∧ x = .m j ∧ M2[j]? = some (.lst ws) ∧ ws.length < sizeLine ∧ Φ (.d .none) (M2.set j (.lst (ws ++ [y]))))
    (h.mono fun x M1 ⟨hl, q⟩ => ⟨hl, za_cons (q.mono fun y M2 ⟨j, ws, e1, e2, e3, φ⟩ => za_nil ⟨j, ws, y, rfl, e1, e2, e3, φ⟩) sy.star⟩)
    (fun F ι H M v x vs xs Q R rx rs ψ hQ => by
      obtain ⟨j, ws, y, rfl, rfl, hm, hz, φ⟩ := ψ
      obtain ⟨c, us, rfl, hc, h1, rw'⟩ := cell_at R rx hm
      cases rs with
      | cons ry rn =>
        cases rn
        exact ⟨c, us, _, rfl, rfl, h1, by rw [rw'.len]; exact hz, cell_put R hc hm (rw'.app (.cons ry .nil)) (.dat .non) φ hQ⟩) sy
/-- xs.insert(i, e) -/
theorem zm_insert (h : ZE X o Γ M fun x M1 => IsLst x M1 ∧ ZE X e Γ M1 fun y M2 => ZE X f Γ M2 fun z M3 => ∃ j ws i, x = .m j ∧ y = .d (.int i) ∧ M3[j]? = some (.lst ws) ∧ ws.length < sizeLine ∧ 0 ≤ i ∧ i < 2 ^ 63 ∧ Φ (.d .none) (M3.set j (.lst (ws.take i.toNat ++ [z] ++ ws.drop i.toNat))))
    (sy : MSyn X o "insert" e [f] apos cpos := by exact ⟨by rfl, by rfl, by rfl, by rfl, by rfl⟩) (hs2 : starEach [f] X.env = (false, eval f X.env) :: starEach [] X.env := by rfl) : ZE X (.Call (.Attribute o "insert" apos) [e, f] [] cpos) Γ M Φ :=
  zm_list PySem.F.slot_list_insert PySem.F.type_list_insert mt_insert (Ψ := fun x xs M3 => ∃ j ws i z, xs = [.d (.int i), z] ∧ x = .m j ∧ M3[j]? = some (.lst ws) ∧ ws.length < sizeLine ∧ 0 ≤ i ∧ i < 2 ^ 63 ∧ Φ (.d .none) (M3.set j (.lst (ws.take i.toNat ++ [z] ++ ws.drop i.toNat))))
    (h.mono fun x M1 ⟨hl, q⟩ => ⟨hl, za_cons (q.mono fun y M2 q2 => za_cons (q2.mono fun z M3 ⟨j, ws, i, e1, e2, e3, e4, e5, e6, φ⟩ => za_nil ⟨j, ws, i, z, by rw [e2], e1, e3, e4, e5, e6, φ⟩) hs2) sy.star⟩)
    (fun F ι H M v x vs xs Q R rx rs ψ hQ => by
      obtain ⟨j, ws, i, z, rfl, rfl, hm, hz, i0, i1, φ⟩ := ψ
      obtain ⟨c, us, rfl, hc, h1, rw'⟩ := cell_at R rx hm
      cases rs with
      | cons ri rn =>
        cases rn with
        | cons rz rn =>
          cases rn
          exact ⟨c, us, i, _, rfl, by rw [At.int_ ri], h1, by rw [rw'.len]; exact hz, i0, i1, cell_put R hc hm (((rw'.take _).app (.cons rz .nil)).app (rw'.drop _)) (.dat .non) φ hQ⟩) sy
end
end Z

/-! Z9: more methods, stores, calls of built-in functions. -/
namespace Z
open PySem PySem.Spec PyProof.Rows L2
section
variable {X : Cx} {k : Nat} {a b e f o : Expr} {es : List Expr} {pos p apos cpos : Pos} {Γ : GS} {M : MS} {Φ : W → MS → Prop}
/-- xs.pop(i) of a cell -/
theorem zm_popAt (h : ZE X o Γ M fun x M1 => IsLst x M1 ∧ ZE X e Γ M1 fun y M2 => ∃ j ws i n w, x = .m j ∧ y = .d (.int i) ∧ M2[j]? = some (.lst ws) ∧ -(2 ^ 63) ≤ i ∧ i < 2 ^ 63 ∧ seqIndex? i ws.length = some n ∧ ws[n]? = some w ∧ Φ w (M2.set j (.lst (ws.eraseIdx n))))
    (sy : MSyn X o "pop" e [] apos cpos := by exact ⟨by rfl, by rfl, by rfl, by rfl, by rfl⟩) : ZE X (.Call (.Attribute o "pop" apos) [e] [] cpos) Γ M Φ :=
  zm_list PySem.F.slot_list_pop PySem.F.type_list_pop mt_popAt (Ψ := fun x xs M2 => ∃ j ws i n w, x = .m j ∧ xs = [.d (.int i)] ∧ M2[j]? = some (.lst ws) ∧ -(2 ^ 63) ≤ i ∧ i < 2 ^ 63 ∧ seqIndex? i ws.length = some n ∧ ws[n]? = some w ∧ Φ w (M2.set j (.lst (ws.eraseIdx n))))
    (h.mono fun x M1 ⟨hl, q⟩ => ⟨hl, za_cons (q.mono fun y M2 ⟨j, ws, i, n, w, e1, e2, r⟩ => za_nil ⟨j, ws, i, n, w, e1, by rw [e2], r⟩) sy.star⟩)
    (fun F ι H M v x vs xs Q R rx rs ψ hQ => by
      obtain ⟨j, ws, i, n, w, rfl, rfl, hm, i0, i1, hn, hw, φ⟩ := ψ
      obtain ⟨c, us, rfl, hc, h1, rw'⟩ := cell_at R rx hm
      obtain ⟨z, hz, rz⟩ := pair_get rw' hw
      cases rs with
      | cons ri rn =>
        cases rn
        exact ⟨c, us, i, n, z, rfl, by rw [At.int_ ri], h1, i0, i1, by rw [rw'.len]; exact hn, hz, cell_put R hc hm (rw'.erase n) rz φ hQ⟩) sy
def flatD : PyData → Bool
  | .none => true
  | .bool _ => true
  | .int _ => true
  | .str _ => true
  | _ => false
theorem flat_v {F : Hp} {v : V} {d : PyData} (h : At F v d) (f : flatD d = true) : flatV v = true := by
  cases h <;> first | rfl | cases f
theorem flat_all {F : Hp} : ∀ {vs : List V} {ds : List PyData}, AtAll F vs ds → ds.all flatD = true → vs.all flatV = true
  | _, _, .nil, _ => rfl
  | _, _, .cons a b, f => by
    rw [List.all_cons, Bool.and_eq_true] at f ⊢
    exact ⟨flat_v a f.1, flat_all b f.2⟩
theorem eqV_eqv {F : Hp} {v u : V} {d e : PyData} (h : At F v d) (h' : At F u e) (f : flatD d = true) (f' : flatD e = true) : eqV v u = PyData.eqv d e := by
  cases h <;> cases h' <;> first | rfl | (cases f; done) | (cases f'; done)
/-- xs.index(e) of flat data -/
theorem zm_index (h : ZE X o Γ M fun x M1 => ∃ ds, x = .d (.list ds) ∧ ZE X e Γ M1 fun y M2 => ∃ d j z, y = .d d ∧ flatD d = true ∧ ds.all flatD = true ∧ ds[j]? = some z ∧ PyData.eqv z d = true ∧ (∀ (m : Nat) z', m < j → ds[m]? = some z' → PyData.eqv z' d = false) ∧ Φ (.d (.int (j : Nat))) M2)
    (sy : MSyn X o "index" e [] apos cpos := by exact ⟨by rfl, by rfl, by rfl, by rfl, by rfl⟩) : ZE X (.Call (.Attribute o "index" apos) [e] [] cpos) Γ M Φ :=
  zm_list PySem.F.slot_list_index PySem.F.type_list_index mt_index (Ψ := fun x xs M2 => ∃ ds d j z, x = .d (.list ds) ∧ xs = [.d d] ∧ flatD d = true ∧ ds.all flatD = true ∧ ds[j]? = some z ∧ PyData.eqv z d = true ∧ (∀ (m : Nat) z', m < j → ds[m]? = some z' → PyData.eqv z' d = false) ∧ Φ (.d (.int (j : Nat))) M2)
    (h.mono fun x M1 ⟨ds, e0, q⟩ => ⟨.inl ⟨ds, e0⟩, za_cons (q.mono fun y M2 ⟨d, j, z, e1, r⟩ => za_nil ⟨ds, d, j, z, e0, by rw [e1], r⟩) sy.star⟩)
    (fun F ι H M v x vs xs Q R rx rs ψ hQ => by
      obtain ⟨ds, d, j, z, rfl, rfl, fd, fs, hz, he, hno, φ⟩ := ψ
      obtain ⟨c, us, rfl, f, ra⟩ := At.lst_ rx
      obtain ⟨y, hy, ry⟩ := ra.get hz
      have fz : flatD z = true := List.all_eq_true.mp fs z (List.mem_of_getElem? hz)
      cases rs with
      | cons rd rn =>
        cases rn
        refine ⟨c, us, _, j, y, rfl, rfl, .of (R.sub _ _ f), flat_v rd fd, flat_all ra fs, hy, by rw [eqV_eqv ry rd fz fd]; exact he, fun m z' hm hz' => ?_, hQ _ _ (Post.dat R (.int _) φ)⟩
        obtain ⟨x', hx', rx'⟩ := ra.get' hz'
        rw [eqV_eqv rx' rd (List.all_eq_true.mp fs x' (List.mem_of_getElem? hx')) fd]
        exact hno m x' hm hx') sy

/-! ### o[i] = .. -/
def putW {α : Type} (kvs : List (Key × α)) (k : Key) (v : α) : List (Key × α) := if (kvs.any fun kv => decide (kv.1 = k)) = true then kvs.map (fun kv => if kv.1 = k then (kv.1, v) else kv) else kvs ++ [(k, v)]
theorem RKs.len {F : Hp} {ι : List Addr} {vs : List (Key × V)} {ws : List (Key × W)} (h : RKs F ι vs ws) : vs.length = ws.length := Paired.length h
theorem RKs.any {F : Hp} {ι : List Addr} {k : Key} : ∀ {vs : List (Key × V)} {ws : List (Key × W)}, RKs F ι vs ws → (vs.any fun kv => decide (kv.1 = k)) = ws.any fun kv => decide (kv.1 = k)
  | _, _, .nil => rfl
  | _, _, .cons h t => by rw [List.any_cons, List.any_cons, RKs.any t, h.1]
theorem RKs.app {F : Hp} {ι : List Addr} : ∀ {vs us : List (Key × V)} {ws xs : List (Key × W)}, RKs F ι vs ws → RKs F ι us xs → RKs F ι (vs ++ us) (ws ++ xs)
  | _, _, _, _, .nil, h => h
  | _, _, _, _, .cons a b, h => .cons a (RKs.app b h)
theorem RKs.putM {F : Hp} {ι : List Addr} {k : Key} {v : V} {w : W} (r : RW F ι v w) : ∀ {vs : List (Key × V)} {ws : List (Key × W)}, RKs F ι vs ws → RKs F ι (vs.map fun kv => if kv.1 = k then (kv.1, v) else kv) (ws.map fun kv => if kv.1 = k then (kv.1, w) else kv)
  | _, _, .nil => .nil
  | _, _, .cons (a := p) (b := q) h t => by
    refine .cons ?_ (RKs.putM r t)
    obtain ⟨h1, h2⟩ := h
    dsimp only
    by_cases e : q.1 = k
    · rw [if_pos e, if_pos (h1.trans e)]; exact ⟨h1, r⟩
    · rw [if_neg e, if_neg (fun z => e (h1 ▸ z))]; exact ⟨h1, h2⟩
theorem RKs.put {F : Hp} {ι : List Addr} {k : Key} {v : V} {w : W} (r : RW F ι v w) {vs : List (Key × V)} {ws : List (Key × W)} (h : RKs F ι vs ws) : RKs F ι (putK vs k v) (putW ws k w) := by
  unfold putK putW
  rw [h.any (k := k)]
  by_cases e : (ws.any fun kv => decide (kv.1 = k)) = true
  · rw [if_pos e, if_pos e]; exact RKs.putM r h
  · rw [if_neg e, if_neg e]; exact h.app (.cons ⟨rfl, r⟩ .nil)
def SetW (x y w : W) (M : MS) (Ψ : MS → Prop) : Prop :=
  (∃ j ws i n, x = .m j ∧ y = .d (.int i) ∧ M[j]? = some (.lst ws) ∧ ixN ws.length i = some n ∧ Ψ (M.set j (.lst (ws.set n w)))) ∨
  ∃ j kws q, x = .m j ∧ y = .d (keyD q) ∧ M[j]? = some (.dic kws) ∧ kws.length < sizeLine ∧ Ψ (M.set j (.dic (putW kws q w)))
def rSetZ : TSet := fun o i v H Q => rSetL o i v H Q ∨ rSetD o i v H Q
theorem set_z (hr : RoomZ k X.A) : PSet X rSetZ := by
  intro pins s σ H o i v ov iv u Q I ro ri rv h
  rcases h with h | h
  · exact set_list pins s σ H o i v ov iv u Q I ro ri rv h
  · exact set_dict hr.hu pins s σ H o i v ov iv u Q I ro ri rv h
theorem dic_at {F H : Hp} {ι : List Addr} {j : Nat} {ws : List (Key × W)} {v : V} (R : Rep F H ι M) (r : RW F ι v (.m j)) (hm : M[j]? = some (.dic ws)) : ∃ c vs, v = .ref c ∧ ι[j]? = some c ∧ H c = some (.dK vs) ∧ RKs F ι vs ws := by
  obtain ⟨c, hc, rfl⟩ := r
  rcases R.at_ j c _ hc hm with z | ⟨_, ob, h1, vs, rfl, q⟩
  · cases z
  · exact ⟨c, vs, rfl, hc, h1, q⟩
theorem set_ok {F H : Hp} {ι : List Addr} {x y w : W} {v u z : V} {Ψ : MS → Prop} {Q : Hp → Prop} (R : Rep F H ι M) (rx : RW F ι v x) (ry : RW F ι u y) (rz : RW F ι z w) (h : SetW x y w M Ψ)
    (hQ : ∀ H' M', Ext F ι H F ι H' → Rep F H' ι M' → Ψ M' → Q H') : rSetZ v u z H Q := by
  rcases h with ⟨j, ws, i, n, rfl, rfl, hm, hn, φ⟩ | ⟨j, kws, q, rfl, rfl, hm, hz, φ⟩
  · obtain ⟨c, vs, rfl, hc, h1, r⟩ := cell_at R rx hm
    obtain ⟨E, R'⟩ := R.put (mo := .lst (ws.set n w)) (o := .lst (vs.set n z)) hc hm (by intro z; cases z) ⟨_, rfl, r.set rz n⟩
    exact .inl ⟨c, vs, i, n, rfl, At.int_ ry, h1, by rw [r.len]; exact hn, hQ _ _ E R' φ⟩
  · obtain ⟨c, vs, rfl, hc, h1, r⟩ := dic_at R rx hm
    obtain ⟨E, R'⟩ := R.put (mo := .dic (putW kws q w)) (o := .dK (putK vs q z)) hc hm (by intro z; cases z) ⟨_, rfl, r.put rz⟩
    have ey := kV_at ry
    subst ey
    exact .inr ⟨c, _, rfl, .k h1 (by rw [r.len]; exact hz), hQ _ _ E R' φ⟩
theorem zg_sub {w : W} {Ψ : GS → MS → Prop} (hr : RoomZ k X.A) (h : ZE X o Γ M fun x M1 => ZE X e Γ M1 fun y M2 => SetW x y w M2 fun M3 => Ψ Γ M3)
    (ha : ∀ v, assign (.Subscript o e pos) X.env v = (do
      let ov ← holding [v] (eval o X.env)
      let iv ← holding [v, ov] (eval e X.env)
      standAt pos
      holding [v, ov, iv] (setItem ov iv v)
      release [v, ov, iv] []) := by intro _; rfl) : ZG X (.Subscript o e pos) w Γ M Ψ := fun F ι σ H v R S r => by
  refine w_g (pg_sub pe_w pe_w (set_z hr) ha) ((h F ι σ H R S).mono ?_)
  rintro ov H1 ⟨F1, ι1, M1, x, E1, R1, rx, h2⟩
  refine (h2 F1 ι1 σ H1 R1 (E1.slots S)).mono ?_
  rintro iv H2 ⟨F2, ι2, M2, y, E2, R2, ry, h3⟩
  have E12 := E1.trans E2
  exact set_ok R2 (E2.rw rx) ry (E12.rw r) h3 fun H' M' E R' φ => ⟨F2, ι2, M', Γ, E12.trans E, R', E12.slots S, φ⟩
/-- o[e] op= f, whole numbers -/
def pgetZ : V → V → Hp → VK → Prop := fun x y H Q => (∃ c xs i v, x = .ref c ∧ y = .int i ∧ H c = some (.lst xs) ∧ atI xs i = some v ∧ 0 ≤ i ∧ Q v H) ∨ ∃ c v, x = .ref c ∧ DGet H c y (some v) ∧ Q v H
theorem pget_z (hr : RoomZ k X.A) : PGet X pgetZ := by
  intro pins s σ H x y v u Q I rx ry h
  rcases h with ⟨c, xs, i, z, rfl, rfl, hc, he, i0, q⟩ | ⟨c, z, rfl, g, q⟩
  · obtain rfl : v = Value.ref c := rx
    obtain ⟨t, rfl⟩ := ry
    obtain ⟨its, r, pl, hz⟩ := I.list (.of hc)
    obtain ⟨j, h1, h2, h3, h4, h5⟩ := atI_get he
    obtain ⟨w, ew, rw'⟩ := r.get h2
    have hl := r.length
    have hn := line63
    have hj : i.toNat = j := by
      rw [seqIndex_of i0 h5] at h1
      exact Option.some.inj h1
    exact wpAny_getItem_list pl.isList i0 (by omega) (by rw [hj]; simpa using ew) ⟨z, H, I, rw', q⟩
  · obtain rfl : v = Value.ref c := rx
    exact d_getItem hr.hu I g ry fun w' s3 I3 rw' => ⟨z, H, I3, rw', q⟩
def AGet (x y : W) (M : MS) (Ψ : W → Prop) : Prop := (∃ j ws i w, x = .m j ∧ y = .d (.int i) ∧ M[j]? = some (.lst ws) ∧ atI ws i = some w ∧ 0 ≤ i ∧ Ψ w) ∨ ∃ q w, y = .d (keyD q) ∧ GetW x q M (some w) ∧ Ψ w
theorem zs_aug {D : ZD} {op : Operator} {g : Int → Int → Int} {tpos : Pos} (hr : RoomZ k X.A) (hp : PIp X op (ipI g))
    (h : ZE X o Γ M fun x M1 => ZE X e Γ M1 fun y M2 => AGet x y M2 fun w => ZE X f Γ M2 fun z M3 => ∃ i j, w = .d (.int i) ∧ z = .d (.int j) ∧ SetW x y (.d (.int (g i j))) M3 fun M4 => D.nx Γ M4)
    (ha : ∀ ov iv new, augStore e ov iv new = (do holding [new, ov, iv] (setItem ov iv new); release [new, ov, iv] []; pure .next) := by intros; rfl) : ZS X (.AugAssign (.Subscript o e tpos) op f pos) Γ M D := fun F ι σ H R S => by
  refine w_s (ps_augS pe_w pe_w (pget_z hr) pe_w hp (set_z hr) ha) ((h F ι σ H R S).mono ?_)
  rintro ov H1 ⟨F1, ι1, M1, x, E1, R1, rx, h2⟩
  refine (h2 F1 ι1 σ H1 R1 (E1.slots S)).mono ?_
  rintro iv H2 ⟨F2, ι2, M2, y, E2, R2, ry, h3⟩
  have E12 := E1.trans E2
  have fin : ∀ w old, RW F2 ι2 old w → (ZE X f Γ M2 fun z M3 => ∃ i j, w = .d (.int i) ∧ z = .d (.int j) ∧ SetW x y (.d (.int (g i j))) M3 fun M4 => D.nx Γ M4) →
      wE X f σ H2 fun y4 H4 => ipI g old y4 H4 fun z H5 => rSetZ ov iv z H5 fun H6 => (D.ends F ι H).nx σ H6 := fun w old ro hf => by
    refine (hf F2 ι2 σ H2 R2 (E12.slots S)).mono ?_
    rintro v4 H4 ⟨F4, ι4, M4, z, E4, R4, rz, i, j, rfl, rfl, h5⟩
    have E14 := E12.trans E4
    refine ⟨i, j, At.int_ (E4.rw ro), At.int_ rz, set_ok R4 (E4.rw (E2.rw rx)) (E4.rw ry) (.dat (.int _)) h5 fun H' M' E R' φ => ?_⟩
    exact ⟨F4, ι4, M', Γ, E14.trans E, R', E14.slots S, φ⟩
  rcases h3 with ⟨j, ws, i, w, rfl, rfl, hm, hw, i0, hf⟩ | ⟨q, w, rfl, gt, hf⟩
  · obtain ⟨c, vs, rfl, hc, h1, r⟩ := cell_at R2 (E2.rw rx) hm
    obtain ⟨z, hz, rz⟩ := at_rel r hw
    exact .inl ⟨c, vs, i, z, rfl, At.int_ ry, h1, hz, i0, fin w z rz hf⟩
  · obtain ⟨c, ovv, rfl, dg, i1, _⟩ := get_ok R2 (E2.rw rx) ry gt
    obtain ⟨z, rfl, rz⟩ := i1 w rfl
    exact .inr ⟨c, z, rfl, dg, fin w z rz hf⟩
/-- x op= e, whole numbers -/
theorem zs_augN (i : Nat) {D : ZD} {x : Str} {pos' : Pos} {op : Operator} {g : Int → Int → Int} (hp : PIp X op (ipI g)) {n : Int} (h0 : Γ[i]? = some (some (.d (.int n)))) (h : ZE X e Γ M fun w M1 => ∃ m, w = .d (.int m) ∧ D.nx (Γ.set i (some (.d (.int (g n m))))) M1)
    (hN : X.N.Nodup) (hi : X.N[i]? = some x := by rfl) (hx : Loc X.env.scope x := by first | exact Or.inl rfl | exact Or.inr rfl) (hf : X.fn x = true ∨ X.env.scope.names.lookup x = some .local := by first | exact .inl rfl | exact .inr rfl) :
    ZS X (.AugAssign (.Name x pos') op e pos) Γ M D := fun F ι σ H R S => by
  obtain ⟨v, e1, r⟩ := S.get i _ h0
  refine w_s (ps_aug hN hi hx pe_w hp hf) ⟨v, e1, (h F ι σ H R S).mono ?_⟩
  rintro y H1 ⟨F1, ι1, M1, w, E1, R1, rw', m, rfl, φ⟩
  exact ⟨n, m, At.int_ r, At.int_ rw', F1, ι1, M1, _, E1, R1, (E1.slots S).set i (.dat (.int _)), φ⟩
end
end Z

/-! Z10: calls of built-in functions. -/
namespace Z
open PySem PySem.Spec PyProof.Rows L2
theorem bt_len : bootBuiltins "len" = some (.builtin "len") := by decide +kernel
theorem bt_abs : bootBuiltins "abs" = some (.builtin "abs") := by decide +kernel
theorem bt_min : bootBuiltins "min" = some (.builtin "min") := by decide +kernel
theorem bt_max : bootBuiltins "max" = some (.builtin "max") := by decide +kernel
theorem bt_repr : bootBuiltins "repr" = some (.builtin "repr") := by decide +kernel
theorem bt_sorted : bootBuiltins "sorted" = some (.builtin "sorted") := by decide +kernel
theorem bt_isinstance : bootBuiltins "isinstance" = some (.builtin "isinstance") := by decide +kernel
theorem bt_all : bootBuiltins "all" = some (.builtin "all") := by decide +kernel
theorem bt_any : bootBuiltins "any" = some (.builtin "any") := by decide +kernel
theorem bt_sum : bootBuiltins "sum" = some (.builtin "sum") := by decide +kernel
theorem bt_int : bootBuiltins "int" = some (.type "int") := by decide +kernel
theorem bt_bool : bootBuiltins "bool" = some (.type "bool") := by decide +kernel
theorem bt_str : bootBuiltins "str" = some (.type "str") := by decide +kernel
theorem bt_list : bootBuiltins "list" = some (.type "list") := by decide +kernel
theorem bt_tuple : bootBuiltins "tuple" = some (.type "tuple") := by decide +kernel
theorem bt_dict : bootBuiltins "dict" = some (.type "dict") := by decide +kernel
theorem bt_set : bootBuiltins "set" = some (.type "set") := by decide +kernel
theorem bt_zip : bootBuiltins "zip" = some (.type "zip") := by decide +kernel
/-- the built-in names that no module's name hides -/
structure Bn (T : Top) : Prop where
  len : T.mg "len" = none
  abs : T.mg "abs" = none
  min : T.mg "min" = none
  max : T.mg "max" = none
  repr : T.mg "repr" = none
  sorted : T.mg "sorted" = none
  isinstance : T.mg "isinstance" = none
  all : T.mg "all" = none
  any : T.mg "any" = none
  sum : T.mg "sum" = none
  int : T.mg "int" = none
  bool : T.mg "bool" = none
  str : T.mg "str" = none
  list : T.mg "list" = none
  tuple : T.mg "tuple" = none
  dict : T.mg "dict" = none
  set : T.mg "set" = none
  zip : T.mg "zip" = none
  range : T.mg "range" = none
  enumerate : T.mg "enumerate" = none
  reversed : T.mg "reversed" = none
  sys : ∃ o, T.base.get? sysModules = some o
section
variable {X : Cx} {k : Nat} {a b e f o : Expr} {es : List Expr} {pos p apos cpos : Pos} {Γ : GS} {M : MS} {Φ : W → MS → Prop} {x : Str}
/-- the looks of a call -/
structure CSyn (X : Cx) (e : Expr) (es : List Expr) (pos : Pos) : Prop where
  star : starEach (e :: es) X.env = (false, eval e X.env) :: starEach es X.env
  plain : (backTo pos (starEach es X.env)).any (·.1) = false
theorem zb {id : String} {r : List V → Hp → VK → Prop} {Ψ : List W → MS → Prop} (hc : CallR X (.builtin id) r) (hm : X.mg x = none) (hv : bootBuiltins x = some (.builtin id)) (hg : Gl X x) (h : ZA X (e :: es) Γ M Ψ)
    (hr : ∀ F ι H M vs xs Q, Rep F H ι M → RWs F ι vs xs → Ψ xs M → (∀ z H', Post F ι H Φ z H' → Q z H') → r vs H Q) (sy : CSyn X e es pos) (hn : x ≠ "__name__" := by decide) (hdb : (x == ("__debug__" : Str)) = false := by decide) :
    ZE X (.Call (.Name x p) (e :: es) [] pos) Γ M Φ := za (pe_callB hc hg hm hv pa_w hn hdb sy.star sy.plain) h hr
theorem zy {id : String} {r : List V → Hp → VK → Prop} {Ψ : List W → MS → Prop} (hc : CallR X (.type id) r) (hm : X.mg x = none) (hv : bootBuiltins x = some (.type id)) (hg : Gl X x) (h : ZA X (e :: es) Γ M Ψ)
    (hr : ∀ F ι H M vs xs Q, Rep F H ι M → RWs F ι vs xs → Ψ xs M → (∀ z H', Post F ι H Φ z H' → Q z H') → r vs H Q) (sy : CSyn X e es pos) (hn : x ≠ "__name__" := by decide) (hdb : (x == ("__debug__" : Str)) = false := by decide) :
    ZE X (.Call (.Name x p) (e :: es) [] pos) Γ M Φ := za (pe_callTy hc hg hm hv pa_w hn hdb sy.star sy.plain) h hr
theorem one_ {F : Hp} {ι : List Addr} {vs : List V} {x : W} (r : RWs F ι vs [x]) : ∃ v, vs = [v] ∧ RW F ι v x := by
  cases r with
  | cons a b => cases b; exact ⟨_, rfl, a⟩
theorem two_ {F : Hp} {ι : List Addr} {vs : List V} {x y : W} (r : RWs F ι vs [x, y]) : ∃ v u, vs = [v, u] ∧ RW F ι v x ∧ RW F ι u y := by
  cases r with
  | cons a b =>
    cases b with
    | cons c d => cases d; exact ⟨_, _, rfl, a, c⟩
theorem zb1 {id : String} {r : List V → Hp → VK → Prop} {Ψ : W → MS → Prop} (hc : CallR X (.builtin id) r) (hm : X.mg x = none) (hv : bootBuiltins x = some (.builtin id)) (hg : Gl X x) (h : ZE X e Γ M Ψ)
    (hr : ∀ F ι H M v y Q, Rep F H ι M → RW F ι v y → Ψ y M → (∀ z H', Post F ι H Φ z H' → Q z H') → r [v] H Q) (sy : CSyn X e [] pos) (hn : x ≠ "__name__" := by decide) (hdb : (x == ("__debug__" : Str)) = false := by decide) :
    ZE X (.Call (.Name x p) [e] [] pos) Γ M Φ :=
  zb hc hm hv hg (Ψ := fun xs M1 => ∃ y, xs = [y] ∧ Ψ y M1) (za_cons (h.mono fun y M1 q => za_nil ⟨y, rfl, q⟩) sy.star) (fun F ι H M vs xs Q R r ⟨y, e, q⟩ hQ => by
    subst e
    obtain ⟨v, rfl, rv⟩ := one_ r
    exact hr F ι H M v y Q R rv q hQ) sy hn hdb
theorem zy1 {id : String} {r : List V → Hp → VK → Prop} {Ψ : W → MS → Prop} (hc : CallR X (.type id) r) (hm : X.mg x = none) (hv : bootBuiltins x = some (.type id)) (hg : Gl X x) (h : ZE X e Γ M Ψ)
    (hr : ∀ F ι H M v y Q, Rep F H ι M → RW F ι v y → Ψ y M → (∀ z H', Post F ι H Φ z H' → Q z H') → r [v] H Q) (sy : CSyn X e [] pos) (hn : x ≠ "__name__" := by decide) (hdb : (x == ("__debug__" : Str)) = false := by decide) :
    ZE X (.Call (.Name x p) [e] [] pos) Γ M Φ :=
  zy hc hm hv hg (Ψ := fun xs M1 => ∃ y, xs = [y] ∧ Ψ y M1) (za_cons (h.mono fun y M1 q => za_nil ⟨y, rfl, q⟩) sy.star) (fun F ι H M vs xs Q R r ⟨y, e, q⟩ hQ => by
    subst e
    obtain ⟨v, rfl, rv⟩ := one_ r
    exact hr F ι H M v y Q R rv q hQ) sy hn hdb
theorem zb2 {id : String} {r : List V → Hp → VK → Prop} {Ψ : W → W → MS → Prop} (hc : CallR X (.builtin id) r) (hm : X.mg x = none) (hv : bootBuiltins x = some (.builtin id)) (hg : Gl X x) (h : ZE X e Γ M fun y M1 => ZE X f Γ M1 fun z M2 => Ψ y z M2)
    (hr : ∀ F ι H M v u y z Q, Rep F H ι M → RW F ι v y → RW F ι u z → Ψ y z M → (∀ z H', Post F ι H Φ z H' → Q z H') → r [v, u] H Q) (sy : CSyn X e [f] pos) (sy2 : CSyn X f [] pos) (hn : x ≠ "__name__" := by decide) (hdb : (x == ("__debug__" : Str)) = false := by decide) :
    ZE X (.Call (.Name x p) [e, f] [] pos) Γ M Φ :=
  zb hc hm hv hg (Ψ := fun xs M1 => ∃ y z, xs = [y, z] ∧ Ψ y z M1) (za_cons (h.mono fun y M1 q => za_cons (q.mono fun z M2 q2 => za_nil ⟨y, z, rfl, q2⟩) sy2.star) sy.star) (fun F ι H M vs xs Q R r ⟨y, z, e, q⟩ hQ => by
    subst e
    obtain ⟨v, u, rfl, rv, ru⟩ := two_ r
    exact hr F ι H M v u y z Q R rv ru q hQ) sy hn hdb

/-! ### numbers -/
theorem zk_abs (hm : X.mg "abs" = none) (h : ZE X e Γ M fun y M1 => ∃ i, y = .d (.int i) ∧ Φ (.d (.int (if i < 0 then -i else i))) M1) (hg : Gl X "abs" := by rfl) (sy : CSyn X e [] pos := by exact ⟨by rfl, by rfl⟩) : ZE X (.Call (.Name "abs" p) [e] [] pos) Γ M Φ :=
  zb1 call_abs hm bt_abs hg h (fun F ι H M v y Q R rv ψ hQ => by
    obtain ⟨i, rfl, φ⟩ := ψ
    exact ⟨i, by rw [At.int_ rv], hQ _ _ (Post.dat R (.int _) φ)⟩) sy
theorem zk_int (hm : X.mg "int" = none) (h : ZE X e Γ M fun y M1 => (∃ i, y = .d (.int i) ∧ Φ (.d (.int i)) M1) ∨ ∃ c, y = .d (.bool c) ∧ Φ (.d (.int (if c then 1 else 0))) M1) (hg : Gl X "int" := by rfl) (sy : CSyn X e [] pos := by exact ⟨by rfl, by rfl⟩) : ZE X (.Call (.Name "int" p) [e] [] pos) Γ M Φ :=
  zy1 call_int1 hm bt_int hg h (fun F ι H M v y Q R rv ψ hQ => by
    rcases ψ with ⟨i, rfl, φ⟩ | ⟨c, rfl, φ⟩
    · exact .inl ⟨i, by rw [At.int_ rv], hQ _ _ (Post.dat R (.int _) φ)⟩
    · exact .inr ⟨c, by rw [At.bl_ rv], hQ _ _ (Post.dat R (.int _) φ)⟩) sy
theorem zk_max (hm : X.mg "max" = none) (hc : X.calm = true) (h : ZE X e Γ M fun y M1 => ZE X f Γ M1 fun z M2 => ∃ i j, y = .d (.int i) ∧ z = .d (.int j) ∧ Φ (.d (.int (if j > i then j else i))) M2) (hg : Gl X "max" := by rfl) (sy : CSyn X e [f] pos := by exact ⟨by rfl, by rfl⟩) (sy2 : CSyn X f [] pos := by exact ⟨by rfl, by rfl⟩) :
    ZE X (.Call (.Name "max" p) [e, f] [] pos) Γ M Φ :=
  zb2 (call_max2 hc) hm bt_max hg h (fun F ι H M v u y z Q R rv ru ψ hQ => by
    obtain ⟨i, j, rfl, rfl, φ⟩ := ψ
    exact ⟨i, j, by rw [At.int_ rv, At.int_ ru], hQ _ _ (Post.dat R (.int _) φ)⟩) sy sy2
theorem zk_min (hm : X.mg "min" = none) (hc : X.calm = true) (h : ZE X e Γ M fun y M1 => ZE X f Γ M1 fun z M2 => ∃ i j, y = .d (.int i) ∧ z = .d (.int j) ∧ Φ (.d (.int (if j < i then j else i))) M2) (hg : Gl X "min" := by rfl) (sy : CSyn X e [f] pos := by exact ⟨by rfl, by rfl⟩) (sy2 : CSyn X f [] pos := by exact ⟨by rfl, by rfl⟩) :
    ZE X (.Call (.Name "min" p) [e, f] [] pos) Γ M Φ :=
  zb2 (call_min2 hc) hm bt_min hg h (fun F ι H M v u y z Q R rv ru ψ hQ => by
    obtain ⟨i, j, rfl, rfl, φ⟩ := ψ
    exact ⟨i, j, by rw [At.int_ rv, At.int_ ru], hQ _ _ (Post.dat R (.int _) φ)⟩) sy sy2

/-! ### lists, tuples, texts -/
def LenW (y : W) (M : MS) (n : Nat) : Prop := (∃ ds, (y = .d (.list ds) ∨ y = .d (.tuple ds)) ∧ n = ds.length) ∨ (∃ j ws, y = .m j ∧ M[j]? = some (.lst ws) ∧ n = ws.length) ∨ ∃ z : Str, y = .d (.str z) ∧ z.length ≤ sizeLine ∧ n = z.length
theorem LenW.list {ds : List PyData} : LenW (.d (.list ds)) M ds.length := .inl ⟨ds, .inl rfl, rfl⟩
theorem LenW.tuple {ds : List PyData} : LenW (.d (.tuple ds)) M ds.length := .inl ⟨ds, .inr rfl, rfl⟩
theorem LenW.cell {j : Nat} {ws : List W} (h : M[j]? = some (.lst ws)) : LenW (.m j) M ws.length := .inr (.inl ⟨j, ws, rfl, h, rfl⟩)
theorem LenW.str {z : Str} (h : z.length ≤ sizeLine) : LenW (.d (.str z)) M z.length := .inr (.inr ⟨z, rfl, h, rfl⟩)
theorem zk_len (hm : X.mg "len" = none) (h : ZE X e Γ M fun y M1 => ∃ n, LenW y M1 n ∧ Φ (.d (.int (n : Nat))) M1) (hg : Gl X "len" := by rfl) (sy : CSyn X e [] pos := by exact ⟨by rfl, by rfl⟩) : ZE X (.Call (.Name "len" p) [e] [] pos) Γ M Φ :=
  zb1 call_len hm bt_len hg h (fun F ι H M v y Q R rv ψ hQ => by
    obtain ⟨n, hn, φ⟩ := ψ
    have fin := hQ (.int (n : Nat)) H (Post.dat R (.int _) φ)
    rcases hn with ⟨ds, rfl | rfl, rfl⟩ | ⟨j, ws, rfl, hj, rfl⟩ | ⟨z, rfl, hz, rfl⟩
    · obtain ⟨c, vs, rfl, f, r⟩ := At.lst_ rv
      exact ⟨_, _, rfl, .inl ⟨vs, .of (R.sub _ _ f), r.len.symm⟩, fin⟩
    · obtain ⟨c, vs, rfl, f, r⟩ := At.tup_ rv
      exact ⟨_, _, rfl, .inr ⟨vs, .of (R.sub _ _ f), r.len.symm⟩, fin⟩
    · obtain ⟨c, vs, rfl, _, h1, r⟩ := cell_at R rv hj
      exact ⟨_, _, rfl, .inl ⟨vs, .of h1, r.len.symm⟩, fin⟩
    · rw [At.str_ rv]
      exact ⟨_, _, rfl, ⟨hz, rfl⟩, fin⟩) sy
/-- a list or a tuple, whole: data or a cell of data -/
def AllW (y : W) (M : MS) (ds : List PyData) : Prop := y = .d (.list ds) ∨ y = .d (.tuple ds) ∨ ∃ j, y = .m j ∧ M[j]? = some (.lst (ds.map .d))
theorem AllW.at {F H : Hp} {ι : List Addr} {y : W} {v : V} {ds : List PyData} (R : Rep F H ι M) (r : RW F ι v y) (h : AllW y M ds) : ∃ c vs, v = .ref c ∧ (H c = some (.lst vs) ∨ (F c = some (.tup vs) ∧ y = .d (.tuple ds))) ∧ AtAll F vs ds := by
  rcases h with rfl | rfl | ⟨j, rfl, hj⟩
  · obtain ⟨c, vs, rfl, f, q⟩ := At.lst_ r
    exact ⟨c, vs, rfl, .inl (R.sub _ _ f), q⟩
  · obtain ⟨c, vs, rfl, f, q⟩ := At.tup_ r
    exact ⟨c, vs, rfl, .inr ⟨f, rfl⟩, q⟩
  · obtain ⟨c, vs, rfl, _, h1, q⟩ := cell_at R r hj
    exact ⟨c, vs, rfl, .inl h1, RWs.dat q⟩
theorem zk_list (hm : X.mg "list" = none) (h : ZE X e Γ M fun y M1 => ∃ ds, AllW y M1 ds ∧ Φ (.d (.list ds)) M1) (hg : Gl X "list" := by rfl) (sy : CSyn X e [] pos := by exact ⟨by rfl, by rfl⟩) : ZE X (.Call (.Name "list" p) [e] [] pos) Γ M Φ :=
  zy1 call_list_of hm bt_list hg h (fun F ι H M v y Q R rv ψ hQ => by
    obtain ⟨ds, hy, φ⟩ := ψ
    obtain ⟨c, vs, rfl, hc, r⟩ := hy.at R rv
    refine ⟨c, vs, rfl, ?_, lay_lst R r φ hQ⟩
    rcases hc with h1 | ⟨f, _⟩
    · exact .inl (.of h1)
    · exact .inr (.of (R.sub _ _ f))) sy
/-- list(..) that is to be changed -/
theorem zk_listM (hm : X.mg "list" = none) (h : ZE X e Γ M fun y M1 => ∃ ds, AllW y M1 ds ∧ Φ (.m M1.length) (M1 ++ [.lst (ds.map .d)])) (hg : Gl X "list" := by rfl) (sy : CSyn X e [] pos := by exact ⟨by rfl, by rfl⟩) : ZE X (.Call (.Name "list" p) [e] [] pos) Γ M Φ :=
  zy1 call_list_of hm bt_list hg h (fun F ι H M v y Q R rv ψ hQ => by
    obtain ⟨ds, hy, φ⟩ := ψ
    obtain ⟨c, vs, rfl, hc, r⟩ := hy.at R rv
    refine ⟨c, vs, rfl, ?_, fun q n => ?_⟩
    · rcases hc with h1 | ⟨f, _⟩
      · exact .inl (.of h1)
      · exact .inr (.of (R.sub _ _ f))
    · obtain ⟨E, R'⟩ := R.new (o := .lst vs) (mo := .lst (ds.map .d)) n ⟨vs, rfl, RWs.of r⟩
      exact hQ _ _ (Post.ext E (Post.ret R' (RW.m (by rw [← R.len, List.getElem?_append_right (Nat.le_refl _)]; simp)) φ))) sy
theorem zk_tuple (hm : X.mg "tuple" = none) (h : ZE X e Γ M fun y M1 => ∃ ds, AllW y M1 ds ∧ Φ (.d (.tuple ds)) M1) (hg : Gl X "tuple" := by rfl) (sy : CSyn X e [] pos := by exact ⟨by rfl, by rfl⟩) : ZE X (.Call (.Name "tuple" p) [e] [] pos) Γ M Φ :=
  zy1 call_tuple_of hm bt_tuple hg h (fun F ι H M v y Q R rv ψ hQ => by
    obtain ⟨ds, hy, φ⟩ := ψ
    obtain ⟨c, vs, rfl, hc, r⟩ := hy.at R rv
    refine ⟨c, vs, rfl, ?_⟩
    rcases hc with h1 | ⟨f, rfl⟩
    · exact .inl ⟨.of h1, lay_tup R r φ hQ⟩
    · exact .inr ⟨.of (R.sub _ _ f), hQ _ _ (Post.dat R (.tup f r) φ)⟩) sy
/-- repr of data -/
theorem zk_repr (hr : RoomZ k X.A) (hs : ∃ o, X.base.get? sysModules = some o) (hm : X.mg "repr" = none) (h : ZE X e Γ M fun y M1 => ∃ d, y = .d d ∧ d.showable = true ∧ d.depth ≤ 60 ∧ d.shown.length ≤ sizeLine ∧ Φ (.d (.str d.shown)) M1) (hg : Gl X "repr" := by rfl) (sy : CSyn X e [] pos := by exact ⟨by rfl, by rfl⟩) :
    ZE X (.Call (.Name "repr" p) [e] [] pos) Γ M Φ :=
  zb1 (call_repr hr hs) hm bt_repr hg h (fun F ι H M v y Q R rv ψ hQ => by
    obtain ⟨d, rfl, h1, h2, h3, φ⟩ := ψ
    exact ⟨F, v, d, rfl, R.sub, rv, h1, h2, h3, hQ _ _ (Post.dat R (.str _) φ)⟩) sy
/-- sorted of whole numbers, of texts -/
def SortW (y : W) (M : MS) (Ψ : List PyData → Prop) : Prop := (∃ ns : List Int, AllW y M (ns.map .int) ∧ (∀ ds, y ≠ .d (.tuple ds)) ∧ Ψ ((sortI ns).map .int)) ∨ ∃ ss : List Str, AllW y M (ss.map .str) ∧ (∀ ds, y ≠ .d (.tuple ds)) ∧ ss.length < 64 ∧ Ψ ((sortS ss).map .str)
theorem CallR.or {f : Value} {r r' : List V → Hp → VK → Prop} (h : CallR X f r) (h' : CallR X f r') : CallR X f (fun xs H Q => r xs H Q ∨ r' xs H Q) := by
  intro pins s σ H xs us Q I rx q
  rcases q with q | q
  · exact h pins s σ H xs us Q I rx q
  · exact h' pins s σ H xs us Q I rx q
theorem zk_sorted (hm : X.mg "sorted" = none) (h : ZE X e Γ M fun y M1 => SortW y M1 fun ds => Φ (.d (.list ds)) M1) (hg : Gl X "sorted" := by rfl) (sy : CSyn X e [] pos := by exact ⟨by rfl, by rfl⟩) : ZE X (.Call (.Name "sorted" p) [e] [] pos) Γ M Φ :=
  zb1 (CallR.or cr_sortedI cr_sortedS) hm bt_sorted hg h (fun F ι H M v y Q R rv ψ hQ => by
    rcases ψ with ⟨ns, hy, nt, φ⟩ | ⟨ss, hy, nt, h64, φ⟩
    · obtain ⟨c, vs, rfl, hc, r⟩ := hy.at R rv
      have h1 := hc.resolve_right fun z => nt _ z.2
      rw [r.ints] at h1
      refine .inl ⟨c, ns, rfl, .of h1, fun ns' q pm pw n => ?_⟩
      rw [sortI_of pm pw]
      exact lay_lst R .of_ints φ hQ q n
    · obtain ⟨c, vs, rfl, hc, r⟩ := hy.at R rv
      have h1 := hc.resolve_right fun z => nt _ z.2
      rw [r.strs] at h1
      refine .inr ⟨c, ss, rfl, .of h1, h64, fun ys q pm so n => ?_⟩
      rw [sortS_of pm (sorted_pw so)]
      exact lay_lst R .of_strs φ hQ q n) sy
theorem AtAll.bools {F : Hp} : ∀ {v : List V} {ns : List Bool}, AtAll F v (ns.map .bool) → v = ns.map V.bl
  | _, [], h => by cases h; rfl
  | _, n :: ns, h => by cases h with | cons a b => rw [a.bl_, b.bools]; rfl
theorem zk_all (hm : X.mg "all" = none) (hc : X.calm = true) (h : ZE X e Γ M fun y M1 => ∃ bs : List Bool, y = .d (.list (bs.map .bool)) ∧ Φ (.d (.bool (bs.all id))) M1) (hg : Gl X "all" := by rfl) (sy : CSyn X e [] pos := by exact ⟨by rfl, by rfl⟩) : ZE X (.Call (.Name "all" p) [e] [] pos) Γ M Φ :=
  zb1 (cr_all hc) hm bt_all hg h (fun F ι H M v y Q R rv ψ hQ => by
    obtain ⟨bs, rfl, φ⟩ := ψ
    obtain ⟨c, vs, rfl, f, r⟩ := At.lst_ rv
    rw [r.bools] at f
    exact ⟨c, bs, rfl, .of (R.sub _ _ f), hQ _ _ (Post.dat R (.bl _) φ)⟩) sy
theorem zk_any (hm : X.mg "any" = none) (hc : X.calm = true) (h : ZE X e Γ M fun y M1 => ∃ bs : List Bool, y = .d (.list (bs.map .bool)) ∧ Φ (.d (.bool (bs.any id))) M1) (hg : Gl X "any" := by rfl) (sy : CSyn X e [] pos := by exact ⟨by rfl, by rfl⟩) : ZE X (.Call (.Name "any" p) [e] [] pos) Γ M Φ :=
  zb1 (cr_any hc) hm bt_any hg h (fun F ι H M v y Q R rv ψ hQ => by
    obtain ⟨bs, rfl, φ⟩ := ψ
    obtain ⟨c, vs, rfl, f, r⟩ := At.lst_ rv
    rw [r.bools] at f
    exact ⟨c, bs, rfl, .of (R.sub _ _ f), hQ _ _ (Post.dat R (.bl _) φ)⟩) sy
theorem zk_sum (hm : X.mg "sum" = none) (hc : X.calm = true) (h : ZE X e Γ M fun y M1 => ∃ ns : List Int, y = .d (.list (ns.map .int)) ∧ Φ (.d (.int ns.sum)) M1) (hg : Gl X "sum" := by rfl) (sy : CSyn X e [] pos := by exact ⟨by rfl, by rfl⟩) : ZE X (.Call (.Name "sum" p) [e] [] pos) Γ M Φ :=
  zb1 (cr_sum hc) hm bt_sum hg h (fun F ι H M v y Q R rv ψ hQ => by
    obtain ⟨ns, rfl, φ⟩ := ψ
    obtain ⟨c, vs, rfl, f, r⟩ := At.lst_ rv
    rw [r.ints] at f
    exact ⟨c, ns, rfl, .of (R.sub _ _ f), hQ _ _ (Post.dat R (.int _) φ)⟩) sy
end
end Z

/-! Z11: stars in displays, isinstance, dict comprehensions, cells given up. -/
namespace Z
open PySem PySem.Spec PyProof.Rows L2
section
variable {X : Cx} {k : Nat} {a b e f o : Expr} {es : List Expr} {pos p apos cpos : Pos} {Γ : GS} {M : MS} {Φ : W → MS → Prop} {x : Str}
theorem za_star {Ψ : List W → MS → Prop} (h : ZE X e Γ M fun y M1 => ∃ ds, AllW y M1 ds ∧ ZA X es Γ M1 fun zs M2 => Ψ (ds.map .d ++ zs) M2) (hs : starEach (.Starred e p :: es) X.env = (true, eval e X.env) :: starEach es X.env := by rfl) : ZA X (.Starred e p :: es) Γ M Ψ := fun F ι σ H R S => by
  refine w_a (StX.pa_star pe_w pa_w hs) ((h F ι σ H R S).mono ?_)
  rintro v H1 ⟨F1, ι1, M1, y, E1, R1, ry, ds, hy, ha⟩
  obtain ⟨c, vs, rfl, hc, r⟩ := hy.at R1 ry
  refine ⟨c, vs, rfl, ?_, (ha F1 ι1 σ H1 R1 (E1.slots S)).mono ?_⟩
  · rcases hc with h1 | ⟨f, _⟩
    · exact .inr (.of h1)
    · exact .inl (.of (R1.sub _ _ f))
  · rintro us H2 ⟨F2, ι2, M2, zs, E2, R2, rz, ψ⟩
    exact ⟨F2, ι2, M2, _, E1.trans E2, R2, (E2.rws (RWs.of r)).app rz, ψ⟩

/-! ### isinstance -/
def tyD : PyData → String
  | .none => "NoneType"
  | .bool _ => "bool"
  | .int _ => "int"
  | .str _ => "str"
  | .list _ => "list"
  | .tuple _ => "tuple"
  | .dict _ => "dict"
theorem ty_ok {K : PySem.W.Frag} {F H : Hp} {v : V} {d : PyData} (s : Same F H) (h : At F v d) : TyX K H v (.type (tyD d)) := by
  cases h with
  | non => exact .base .non
  | bl b => exact .base (.bl b)
  | int b => exact .base (.int b)
  | str b => exact .base (.str b)
  | lst h _ => exact .base (.lst (s _ _ h))
  | tup h _ => exact .base (.tup (s _ _ h))
  | dic h _ => exact .base (.dK (s _ _ h))
def isTy (t n : String) : Bool := t == n || (t == "bool" && n == "int")
theorem isTy_ok {K : PySem.W.Frag} (d : PyData) {n : String} (h : n = "int" ∨ n = "bool" ∨ n = "str" ∨ n = "tuple" ∨ n = "list" ∨ n = "dict") : PySem.W.kitOne K (.type (tyD d)) (.type n) = some (isTy (tyD d) n) := by
  have key : ∀ t ∈ ["NoneType", "bool", "int", "str", "list", "tuple", "dict"], ∀ n ∈ ["int", "bool", "str", "tuple", "list", "dict"], kitB t n = some (isTy t n) := by decide +kernel
  exact kit_ty (key _ (by cases d <;> simp [tyD]) n (by simpa using h))
theorem zk_isi {n : Str} {T : String} {p' : Pos} (hm : X.mg "isinstance" = none) (hn : X.mg n = none) (hb : bootBuiltins n = some (.type T)) (hT : T = "int" ∨ T = "bool" ∨ T = "str" ∨ T = "tuple" ∨ T = "list" ∨ T = "dict")
    (h : ZE X e Γ M fun y M1 => ∃ d, y = .d d ∧ Φ (.d (.bool (isTy (tyD d) T))) M1) (hg : Gl X "isinstance" := by rfl) (hg2 : Gl X n := by rfl) (sy : CSyn X e [.Name n p'] pos := by exact ⟨by rfl, by rfl⟩) (sy2 : CSyn X (.Name n p') [] pos := by exact ⟨by rfl, by rfl⟩)
    (hnn : n ≠ "__name__" := by decide) (hdb : (n == ("__debug__" : Str)) = false := by decide) : ZE X (.Call (.Name "isinstance" p) [e, .Name n p'] [] pos) Γ M Φ := fun F ι σ H R S => by
  refine w_e (pe_callB call_isi hg hm bt_isinstance (pa_cons pe_w (pa_cons (pe_bltn (v := .ty T) hg2 hn hb rfl hnn hdb) pa_nil sy2.star) sy.star) (by decide) (by decide) sy.star sy.plain) ((h F ι σ H R S).mono ?_)
  rintro v H1 ⟨F1, ι1, M1, y, E1, R1, ry, d, rfl, φ⟩
  exact ⟨v, .ty T, _, _, _, rfl, .ty T, ty_ok R1.sub ry, isTy_ok d hT, F1, ι1, M1, _, E1, R1, .dat (.bl _), φ⟩

/-! ### cells given up -/
def InbW (n : Nat) : W → Prop
  | .d _ => True
  | .m j => j < n
def InbO (n : Nat) : MO → Prop
  | .gone => True
  | .lst ws => ∀ w ∈ ws, InbW n w
  | .dic ks => ∀ q ∈ ks, InbW n q.2
/-- the cells name no cell beyond -/
def Cl (M : MS) : Prop := ∀ mo ∈ M, InbO M.length mo
theorem RW.inb {F : Hp} {ι : List Addr} {v : V} {w : W} (h : RW F ι v w) : InbW ι.length w := by
  cases w with
  | d x => trivial
  | m j => obtain ⟨a, e, _⟩ := h; exact (List.getElem?_eq_some_iff.mp e).1
theorem paired_right {α β : Type} {R : α → β → Prop} {P : β → Prop} (k : ∀ a b, R a b → P b) : ∀ {xs : List α} {ys : List β}, Paired R xs ys → ∀ y ∈ ys, P y
  | _, _, .nil, _, h => absurd h (by simp)
  | _, _, .cons r t, y, h => by
    rcases List.mem_cons.mp h with rfl | h
    · exact k _ _ r
    · exact paired_right k t y h
theorem MOk.inb {F : Hp} {ι : List Addr} {mo : MO} {o : HO} (h : MOk F ι mo o) : InbO ι.length mo := by
  cases mo with
  | gone => trivial
  | lst ws => obtain ⟨vs, _, r⟩ := h; exact paired_right (fun _ _ q => q.inb) r
  | dic ws => obtain ⟨vs, _, r⟩ := h; exact paired_right (P := fun q : Key × W => InbW ι.length q.2) (fun _ _ q => q.2.inb) r
theorem Rep.cl {F H : Hp} {ι : List Addr} {M : MS} (R : Rep F H ι M) : Cl M := fun mo h => by
  obtain ⟨k, hk, e⟩ := List.getElem_of_mem h
  have hk' : k < ι.length := by rw [R.len]; exact hk
  rcases R.at_ k ι[k] mo (List.getElem?_eq_getElem hk') (by rw [List.getElem?_eq_getElem hk, e]) with z | ⟨_, o, _, q⟩
  · subst z; trivial
  · rw [← R.len]; exact q.inb
theorem RW.cut {F : Hp} {ι : List Addr} {n : Nat} {v : V} {w : W} (h : RW F ι v w) (hw : InbW n w) : RW F (ι.take n) v w := by
  cases w with
  | d x => exact h
  | m j => obtain ⟨a, e, q⟩ := h; exact ⟨a, by rw [List.getElem?_take_of_lt hw]; exact e, q⟩
theorem paired_cut {α β : Type} {R R' : α → β → Prop} {P : β → Prop} (k : ∀ a b, R a b → P b → R' a b) : ∀ {xs : List α} {ys : List β}, Paired R xs ys → (∀ y ∈ ys, P y) → Paired R' xs ys
  | _, _, .nil, _ => .nil
  | _, _, .cons r t, h => .cons (k _ _ r (h _ (by simp))) (paired_cut k t fun y hy => h y (by simp [hy]))
/-- the last cells are forgotten -/
theorem Rep.drop {F H : Hp} {ι : List Addr} {M M' : MS} (R : Rep F H ι (M ++ M')) (c : Cl M) : Rep F H (ι.take M.length) M := by
  have hl := R.len
  rw [List.length_append] at hl
  refine ⟨R.sub, by rw [List.length_take]; omega, R.nd.sublist (List.take_sublist _ _), fun a h => R.tr a (List.mem_of_mem_take h), fun k a mo h1 h2 => ?_⟩
  have hk : k < M.length := (List.getElem?_eq_some_iff.mp h2).1
  rw [List.getElem?_take_of_lt hk] at h1
  have inb := c mo (List.mem_of_getElem? h2)
  rcases R.at_ k a mo h1 (by rw [List.getElem?_append_left hk]; exact h2) with z | ⟨z1, o, z2, z3⟩
  · exact .inl z
  · refine .inr ⟨z1, o, z2, ?_⟩
    cases mo with
    | gone => trivial
    | lst ws => obtain ⟨vs, e, r⟩ := z3; exact ⟨vs, e, paired_cut (fun _ _ q i => q.cut i) r inb⟩
    | dic ws => obtain ⟨vs, e, r⟩ := z3; exact ⟨vs, e, paired_cut (P := fun q : Key × W => InbW M.length q.2) (fun _ _ q i => ⟨q.1, q.2.cut i⟩) r inb⟩
/-- how a def may end: what it returns may become data for good, new cells may be forgotten -/
inductive Fin (n : Nat) (Φ : W → MS → Prop) : W → MS → Prop
  | ok {w : W} {M : MS} : Φ w M → Fin n Φ w M
  | drop {w : W} {M J : MS} : n ≤ M.length → Cl M → InbW M.length w → Fin n Φ w M → Fin n Φ w (M ++ J)
  | frz {k : Nat} {ds : List PyData} {M : MS} : M[k]? = some (.lst (ds.map .d)) → Fin n Φ (.d (.list ds)) (M.set k .gone) → Fin n Φ (.m k) M
  | frzD {k : Nat} {kws : List (Key × PyData)} {M : MS} : M[k]? = some (.dic (kws.map fun q => (q.1, .d q.2))) → Fin n Φ (.d (dictK kws)) (M.set k .gone) → Fin n Φ (.m k) M
theorem RKs.dat {F : Hp} {ι : List Addr} : ∀ {vs : List (Key × V)} {ws : List (Key × PyData)}, RKs F ι vs (ws.map fun q => (q.1, .d q.2)) → AtKv F vs (ws.map fun q => (keyD q.1, q.2))
  | _, [], h => by cases h; exact .nil
  | _, q :: ws, h => by
    cases h with
    | @cons p _ _ _ a b =>
      obtain ⟨k, v⟩ := p
      obtain ⟨e, r⟩ := a
      have e : k = q.1 := e
      subst e
      exact .cons r (RKs.dat b)
theorem fin_post {F H H' : Hp} {ι : List Addr} {v : V} {w : W} {n : Nat} {M' : MS} (h : Fin n Φ w M') : ∀ {F' ι'}, ι.length = n → Ext F ι H F' ι' H' → Rep F' H' ι' M' → RW F' ι' v w → Post F ι H Φ v H' := by
  induction h with
  | ok φ => exact fun hn E R r => ⟨_, _, _, _, E, R, r, φ⟩
  | @drop w M J hm c i _ ih =>
    intro F' ι' hn E R r
    obtain ⟨t, e⟩ := E.pre
    have hl := R.len
    rw [List.length_append] at hl
    refine ih hn ⟨E.same, ?_, E.kp, fun a h1 h2 => E.fr a (List.mem_of_mem_take h1) h2, E.nw⟩ (R.drop c) (r.cut i)
    refine ⟨t.take (M.length - ι.length), ?_⟩
    rw [e, List.take_append, List.take_of_length_le (by omega)]
  | @frz k ds M hk _ ih =>
    intro F' ι' hn E R r
    obtain ⟨c, vs, rfl, hc, h1, q⟩ := cell_at R r hk
    obtain ⟨E2, R2⟩ := R.freeze hc hk (by intro z; cases z) h1
    exact ih hn (E.trans E2) R2 (.dat (.lst upd_same ((RWs.dat q).up E2.same)))
  | @frzD k kws M hk _ ih =>
    intro F' ι' hn E R r
    obtain ⟨c, vs, rfl, hc, h1, q⟩ := dic_at R r hk
    obtain ⟨E2, R2⟩ := R.freeze hc hk (by intro z; cases z) h1
    exact ih hn (E.trans E2) R2 (.dat (.dic upd_same ((RKs.dat q).up E2.same)))
/-- an expression's value becomes data, new cells are forgotten -/
theorem ze_fin (h : ZE X e Γ M (Fin M.length Φ)) : ZE X e Γ M Φ := fun F ι σ H R S => (h F ι σ H R S).mono fun v H' ⟨F', ι', M', w, E, R', r, q⟩ => fin_post q R.len E R' r
/-- a local list becomes data for good -/
theorem zs_frz {st : List Stmt} {D : ZD} (i j : Nat) {ds : List PyData} (h0 : Γ[i]? = some (some (.m j))) (hm : M[j]? = some (.lst (ds.map .d))) (h : ZSs X st (Γ.set i (some (.d (.list ds)))) (M.set j .gone) D) : ZSs X st Γ M D := fun F ι σ H R S => by
  obtain ⟨v, e1, r⟩ := S.get i _ h0
  obtain ⟨c, vs, rfl, hc, h1, q⟩ := cell_at R r hm
  obtain ⟨E2, R2⟩ := R.freeze hc hm (by intro z; cases z) h1
  have S2 := (E2.slots S).set i (v := .ref c) (w := .d (.list ds)) (.dat (.lst upd_same ((RWs.dat q).up E2.same)))
  have e2 : σ.set i (some (.ref c)) = σ := by
    refine List.ext_getElem? fun n => ?_
    by_cases hn : i = n
    · subst hn
      rw [List.getElem?_set_self (List.getElem?_eq_some_iff.mp e1).1, e1]
    · rw [List.getElem?_set_ne hn]
  rw [e2] at S2
  exact wSs.mono (h _ ι σ H R2 S2) (ends_ext E2 D)
theorem zs_frzD {st : List Stmt} {D : ZD} (i j : Nat) {kws : List (Key × PyData)} (h0 : Γ[i]? = some (some (.m j))) (hm : M[j]? = some (.dic (kws.map fun q => (q.1, .d q.2)))) (h : ZSs X st (Γ.set i (some (.d (dictK kws)))) (M.set j .gone) D) : ZSs X st Γ M D := fun F ι σ H R S => by
  obtain ⟨v, e1, r⟩ := S.get i _ h0
  obtain ⟨c, vs, rfl, hc, h1, q⟩ := dic_at R r hm
  obtain ⟨E2, R2⟩ := R.freeze hc hm (by intro z; cases z) h1
  have S2 := (E2.slots S).set i (v := .ref c) (w := .d (dictK kws)) (.dat (.dic upd_same ((RKs.dat q).up E2.same)))
  have e2 : σ.set i (some (.ref c)) = σ := by
    refine List.ext_getElem? fun n => ?_
    by_cases hn : i = n
    · subst hn
      rw [List.getElem?_set_self (List.getElem?_eq_some_iff.mp e1).1, e1]
    · rw [List.getElem?_set_ne hn]
  rw [e2] at S2
  exact wSs.mono (h _ ι σ H R2 S2) (ends_ext E2 D)
theorem zs_cl {st : List Stmt} {D : ZD} (h : Cl M → ZSs X st Γ M D) : ZSs X st Γ M D := fun F ι σ H R S => h R.cl F ι σ H R S
theorem zs_fin {st : List Stmt} {D : ZD} (h : ZSs X st Γ M { D with nx := D.nx, rt := Fin M.length D.rt }) : ZSs X st Γ M D := fun F ι σ H R S =>
  wSs.mono (h F ι σ H R S) ⟨fun _ _ q => q, fun v H' ⟨F', ι', M', w, E, R', r, q⟩ => fin_post q R.len E R' r, fun _ _ q => q, fun _ _ q => q⟩
end
end Z

/-! Z12: dict comprehensions; comprehensions of plain maps; sorted of a dict. -/
namespace Z
open PySem PySem.Spec PyProof.Rows L2
section
variable {X : Cx} {tg it kx vx elt e : Expr} {ifs : List Expr} {scope : Scope} {Γ : GS} {M : MS} {D : ZD} {pos p : Pos} {Φ : W → MS → Prop}
structure DcT (X : Cx) (vs : List Nat) (tg kx vx : Expr) (ifs : List Expr) (scope : Scope) (ds : List PyData) (Γ : GS) (M : MS) (I : Nat → List (Key × W) → MS → Prop) (Φ : List (Key × W) → MS → Prop) : Prop where
  zero : I 0 [] M
  turn : ∀ i d acc M1, ds[i]? = some d → I i acc M1 → ∀ B, ZGB (bk X scope B) vs tg (.d d) (wipeG Γ vs) M1 fun Γ2 M2 => ∀ B, ZTs (bk X scope B) ifs Γ2 M2 fun b M3 =>
      if b = true then ∀ B, ZE (bk X scope B) kx Γ2 M3 fun y M4 => ∀ B, ZE (bk X scope B) vx Γ2 M4 fun z M5 => ∃ k, y = .d (keyD k) ∧ acc.length < sizeLine ∧ I (i + 1) (putW acc k z) M5 else I (i + 1) acc M3
  done : ∀ acc M1, I ds.length acc M1 → Φ acc M1
theorem dc_read {vs : List Nat} {F : Hp} {ι : List Addr} {σ : St} {H : Hp} {Φl : List (Key × W) → MS → Prop} {Q : VK} (S : Slots F ι σ Γ) (R : Rep F H ι M)
    (h : ZI X tg it Γ M fun ds M1 => ∃ I, DcT X vs tg kx vx ifs scope ds Γ M1 I Φl)
    (fin : ∀ L H' F' ι' M' acc us, Ext F ι H F' ι' H' → Rep F' H' ι' M' → H' L = some (.dK us) → RKs F' ι' us acc → F' L = none → L ∉ ι' → H L = none → Φl acc M' → Q (.ref L) H') :
    tDc (wI X tg it) (bG X scope tg) (bTs X scope ifs) (bE X scope kx) (bE X scope vx) vs σ H Q := by
  refine (h F ι σ H R S).mono ?_
  rintro J H1 ⟨F1, ι1, M1, ds, E1, R1, yd, I, T⟩ L nL
  have nF1 : F1 L = none := R1.sub.free nL
  have nι1 : L ∉ ι1 := fun z => by
    obtain ⟨o, e⟩ := R1.tr L z
    rw [nL] at e; cases e
  have nι : L ∉ ι := fun z => by
    obtain ⟨r, rfl⟩ := E1.pre
    exact nι1 (List.mem_append_left r z)
  have nH : H L = none := by
    cases e : H L with
    | none => rfl
    | some o => rw [E1.kp L o e nι] at nL; cases nL
  let W : Nat → Hp → Prop := fun i H' => i ≤ ds.length ∧ ∃ F' ι' M' acc us, Ext F ι H F' ι' H' ∧ Same F1 F' ∧ Rep F' H' ι' M' ∧ H' L = some (.dK us) ∧ RKs F' ι' us acc ∧ F' L = none ∧ L ∉ ι' ∧ I i acc M'
  have put : ∀ {F' ι' H' o}, Ext F ι H F' ι' H' → Ext F ι H F' ι' (upd H' L o) := fun E => ⟨E.same, E.pre, fun a x e m => by
    rw [upd_ne (ne_of_none e nH)]; exact E.kp a x e m, E.fr, E.nw⟩
  refine ⟨fun i m H' => m = ds.length - i ∧ W i H', ⟨ds.length, rfl, Nat.zero_le _, F1, ι1, M1, [], [], put E1, Same.refl _, out_put R1 nF1 nι1, upd_same, .nil, nF1, nι1, T.zero⟩, ?_⟩
  rintro i m H' ⟨rfl, hi, F2, ι2, M2, acc, us, E2, s2, R2, hL, ha, nF2, nι2, hI⟩
  have y := yd F2 H' s2 R2.sub i
  by_cases hlt : i < ds.length
  · obtain ⟨go, st⟩ := y.1 _ (List.getElem?_eq_getElem hlt)
    refine .inr ⟨go, W (i + 1), fun H3 w3 => ⟨ds.length - (i + 1), by omega, rfl, w3⟩, fun x H3 hy B => ?_⟩
    obtain ⟨F3, g, ax⟩ := st x H3 hy
    obtain ⟨E3, R3⟩ := R2.grow g
    have tn := T.turn i _ acc M2 (List.getElem?_eq_getElem hlt) hI
    refine wG.mono (tn B F3 ι2 _ H3 x R3 ((E3.slots (E2.slots S)).wipe vs) ax) ?_
    rintro σ4 H4 ⟨hw, F4, ι4, M4, Γ4, E4, R4, S4, h4⟩
    rw [wipe_wipe] at hw
    obtain ⟨hL3, nF3, nι3⟩ := out_kept E3 hL nF2 nι2
    obtain ⟨hL4, nF4, nι4⟩ := out_kept E4 hL3 nF3 nι3
    refine ⟨hw, fun B => wTs.mono (h4 B F4 ι4 σ4 H4 R4 S4) ?_⟩
    rintro b H5 ⟨F5, ι5, M5, E5, R5, h5⟩
    obtain ⟨hL5, nF5, nι5⟩ := out_kept E5 hL4 nF4 nι4
    have E25 := (((E2.trans E3).trans E4).trans E5)
    have s5 : Same F1 F5 := ((s2.trans E3.same).trans E4.same).trans E5.same
    have ha5 : RKs F5 ι5 us acc := ((E3.trans E4).trans E5).rks ha
    cases b with
    | false =>
      rw [if_neg Bool.false_ne_true] at h5 ⊢
      exact ⟨hlt, F5, ι5, M5, acc, us, E25, s5, R5, hL5, ha5, nF5, nι5, h5⟩
    | true =>
      rw [if_pos rfl] at h5 ⊢
      refine fun B => wE.mono (h5 B F5 ι5 σ4 H5 R5 (E5.slots S4)) ?_
      rintro y6 H6 ⟨F6, ι6, M6, yw, E6, R6, ry, h6⟩
      obtain ⟨hL6, nF6, nι6⟩ := out_kept E6 hL5 nF5 nι5
      refine fun B => wE.mono (h6 B F6 ι6 σ4 H6 R6 ((E5.trans E6).slots S4)) ?_
      rintro z H7 ⟨F7, ι7, M7, zw, E7, R7, rz, k, rfl, hz, h7⟩
      obtain ⟨hL7, nF7, nι7⟩ := out_kept E7 hL6 nF6 nι6
      have ha7 := (E6.trans E7).rks ha5
      exact ⟨us, k, kV_at ry, hL7, by rw [ha.len]; exact hz, hlt, F7, ι7, M7, putW acc k zw, putK us k z, put ((E25.trans E6).trans E7), (s5.trans E6.same).trans E7.same, out_put R7 nF7 nι7, upd_same, ha7.put rz, nF7, nι7, h7⟩
  · have e : i = ds.length := by omega
    subst e
    exact .inl ⟨y.2 (Nat.le_refl _), fin L H' F2 ι2 M2 acc us E2 R2 hL ha nF2 nι2 nH (T.done acc M2 hI)⟩
/-- {kx: vx for tg in it if ..} that is to be changed (or read as a cell) -/
theorem ze_dcM {own : List (Str × Nat)} (hc : X.calm = true) (hN : X.N.Nodup) (ok : BlkOk X.N X.env.scope scope own)
    (h : ZI X tg it Γ M fun ds M1 => ∃ I, DcT X (own.map (·.2)) tg kx vx ifs scope ds Γ M1 I fun acc M2 => Φ (.m M2.length) (M2 ++ [.dic acc])) (hs : ∀ x, foldedSetIterable it X.env x = pure x := by intro _; rfl) :
    ZE X (.DictComp kx vx [⟨tg, it, ifs, 0⟩] scope pos) Γ M Φ := fun F ι σ H R S => by
  refine w_e (pe_dc hc hN pi_w ok pg_b pts_b pe_b pe_b hs) (dc_read S R h ?_)
  rintro L H' F' ι' M' acc us E R' hL ha nF nι nH φ
  obtain ⟨E2, R2⟩ := out_cell (mo := .dic acc) E R' hL nF nι nH ⟨us, rfl, ha⟩
  exact ⟨_, _, _, .m M'.length, E2, R2, RW.m (by rw [← R'.len, List.getElem?_append_right (Nat.le_refl _)]; simp), φ⟩
/-- .. as data -/
theorem ze_dc {own : List (Str × Nat)} (hc : X.calm = true) (hN : X.N.Nodup) (ok : BlkOk X.N X.env.scope scope own)
    (h : ZI X tg it Γ M fun ds M1 => ∃ I, DcT X (own.map (·.2)) tg kx vx ifs scope ds Γ M1 I fun acc M2 => ∃ kws, acc = kws.map (fun q => (q.1, W.d q.2)) ∧ Φ (.d (dictK kws)) M2) (hs : ∀ x, foldedSetIterable it X.env x = pure x := by intro _; rfl) :
    ZE X (.DictComp kx vx [⟨tg, it, ifs, 0⟩] scope pos) Γ M Φ := fun F ι σ H R S => by
  refine w_e (pe_dc hc hN pi_w ok pg_b pts_b pe_b pe_b hs) (dc_read S R h ?_)
  rintro L H' F' ι' M' acc us E R' hL ha nF nι nH ⟨kws, rfl, φ⟩
  obtain ⟨E2, R2⟩ := out_lay E R' hL nF nι nH
  have sF : Same F' (upd F' L (.dK us)) := fun b x e => by rw [upd_ne (ne_of_none e nF)]; exact e
  exact ⟨_, _, _, .d (dictK kws), E2, R2, .dat (.dic upd_same ((RKs.dat ha).up sF)), φ⟩
theorem ze_dnew (h : Φ (.m M.length) (M ++ [.dic []])) : ZE X (.Dict [] [] pos) Γ M Φ := fun F ι σ H R S => w_e pe_dnewK fun p n => by
  obtain ⟨E, R'⟩ := R.new (o := .dK []) (mo := .dic []) n ⟨[], rfl, .nil⟩
  exact ⟨_, _, _, .m M.length, E, R', RW.m (by rw [← R.len, List.getElem?_append_right (Nat.le_refl _)]; simp), h⟩
theorem ze_dnil (h : Φ (.d (.dict [])) M) : ZE X (.Dict [] [] pos) Γ M Φ := fun F ι σ H R S => w_e pe_dnewK fun p n => by
  obtain ⟨E, R'⟩ := R.lay (o := .dK []) n
  exact ⟨_, _, _, _, E, R', .dat (.dic upd_same .nil), h⟩
/-- sorted of a dict's names -/
theorem zk_sortedD (hm : X.mg "sorted" = none) (hc : X.calm = true) (h : ZE X e Γ M fun y M1 => ∃ ss : List Str, ((∃ kws, y = .d (dictK kws) ∧ kws.map (·.1) = ss.map Sum.inr) ∨ ∃ j kws, y = .m j ∧ M1[j]? = some (.dic kws) ∧ kws.map (·.1) = ss.map Sum.inr) ∧ ss.length < 64 ∧ Φ (.d (.list ((sortS ss).map .str))) M1)
    (hg : Gl X "sorted" := by rfl) (sy : CSyn X e [] pos := by exact ⟨by rfl, by rfl⟩) : ZE X (.Call (.Name "sorted" p) [e] [] pos) Γ M Φ :=
  zb1 (call_sortedD hc) hm bt_sorted hg h (fun F ι H M v y Q R rv ψ hQ => by
    obtain ⟨ss, hy, h64, φ⟩ := ψ
    have key : ∃ c us, v = .ref c ∧ H c = some (.dK us) ∧ us.map (·.1) = ss.map Sum.inr := by
      rcases hy with ⟨kws, rfl, e⟩ | ⟨j, kws, rfl, hj, e⟩
      · obtain ⟨c, us, rfl, f, r⟩ := At.dic_ rv
        refine ⟨c, us, rfl, R.sub _ _ f, ?_⟩
        have := r.keys
        rw [List.map_map] at this
        rw [← e]
        refine List.map_inj_right (f := keyD) (fun a b => keyD_inj) |>.mp ?_
        rw [List.map_map, List.map_map]
        exact this.symm
      · obtain ⟨c, us, rfl, _, h1, r⟩ := dic_at R rv hj
        refine ⟨c, us, rfl, h1, ?_⟩
        rw [← e]
        clear h1 hj e φ
        induction r with
        | nil => rfl
        | cons a b ih => rw [List.map_cons, List.map_cons, a.1, ih]
    obtain ⟨c, us, rfl, hc, e⟩ := key
    refine ⟨c, us, ss, rfl, .inl hc, e, h64, fun ys q pm so n => ?_⟩
    rw [sortS_of pm (sorted_pw so)]
    exact lay_lst R .of_strs φ hQ q n) sy
end
end Z

/-! Z13: comprehensions of plain maps. -/
namespace Z
open PySem PySem.Spec PyProof.Rows L2
section
variable {X : Cx} {tg it elt : Expr} {ifs : List Expr} {scope : Scope} {Γ : GS} {M : MS} {vs : List Nat} {α : Type}
/-- each item gives one or none, nothing changes -/
theorem LcT.pure (xs : List α) (enc : α → PyData) (g : α → Option PyData) {Φ : List W → MS → Prop} (hl : xs.length < sizeLine)
    (turn : ∀ x ∈ xs, ∀ B, ZGB (bk X scope B) vs tg (.d (enc x)) (wipeG Γ vs) M fun Γ2 M2 => ∀ B, ZTs (bk X scope B) ifs Γ2 M2 fun b M3 => if b = true then ∀ B, ZE (bk X scope B) elt Γ2 M3 fun y M4 => (∃ z, y = .d z ∧ g x = some z) ∧ M4 = M else g x = none ∧ M3 = M)
    (done : Φ ((xs.filterMap g).map .d) M) : ∃ I, LcT X vs tg elt ifs scope (xs.map enc) Γ M I Φ := by
  refine ⟨fun i acc M1 => M1 = M ∧ acc = ((xs.take i).filterMap g).map .d, ⟨rfl, rfl⟩, fun i d acc M1 hd ⟨e1, e2⟩ B => ?_, fun acc M1 ⟨e1, e2⟩ => ?_⟩
  · subst e1 e2
    rw [List.getElem?_map] at hd
    cases hx : xs[i]? with
    | none => rw [hx] at hd; cases hd
    | some x =>
      rw [hx] at hd
      cases hd
      have hm : x ∈ xs := List.mem_of_getElem? hx
      have tk : xs.take (i + 1) = xs.take i ++ [x] := by rw [List.take_add_one, hx]; rfl
      intro F ι σ H v R S r
      refine wG.mono (turn x hm B F ι σ H v R S r) ?_
      rintro σ' H' ⟨hw, F1, ι1, M2, Γ2, E1, R1, S1, h⟩
      refine ⟨hw, F1, ι1, M2, Γ2, E1, R1, S1, fun B F ι σ H R S => wTs.mono (h B F ι σ H R S) ?_⟩
      rintro b H2 ⟨F2, ι2, M3, E2, R2, h2⟩
      refine ⟨F2, ι2, M3, E2, R2, ?_⟩
      cases b with
      | false =>
        rw [if_neg Bool.false_ne_true] at h2 ⊢
        refine ⟨h2.2, ?_⟩
        rw [tk, List.filterMap_append, show [x].filterMap g = [] by simp [h2.1], List.append_nil]
      | true =>
        rw [if_pos rfl] at h2 ⊢
        refine fun B => (h2 B).mono ?_
        rintro y M4 ⟨⟨z, rfl, hg⟩, rfl⟩
        refine ⟨?_, rfl, ?_⟩
        · rw [List.length_map]
          refine Nat.lt_of_le_of_lt ?_ hl
          exact Nat.le_trans (List.length_filterMap_le _ _) (by rw [List.length_take]; exact Nat.min_le_right _ _)
        · rw [tk, List.filterMap_append, show [x].filterMap g = [z] by simp [hg], List.map_append]
          rfl
  · subst e1 e2
    rw [List.length_map, List.take_length]
    exact done
theorem LcT.map (xs : List α) (enc : α → PyData) (f : α → PyData) {Φ : List W → MS → Prop} (hl : xs.length < sizeLine)
    (turn : ∀ x ∈ xs, ∀ B, ZGB (bk X scope B) vs tg (.d (enc x)) (wipeG Γ vs) M fun Γ2 M2 => ∀ B, ZE (bk X scope B) elt Γ2 M2 fun y M4 => y = .d (f x) ∧ M4 = M)
    (done : Φ ((xs.map f).map .d) M) : ∃ I, LcT X vs tg elt [] scope (xs.map enc) Γ M I Φ := by
  have e : xs.filterMap (fun x => some (f x)) = xs.map f := by simp
  refine LcT.pure xs enc (fun x => some (f x)) hl (fun x hx B F ι σ H v R S r => wG.mono (turn x hx B F ι σ H v R S r) ?_) (by rw [e]; exact done)
  rintro σ' H' ⟨hw, F1, ι1, M2, Γ2, E1, R1, S1, h⟩
  exact ⟨hw, F1, ι1, M2, Γ2, E1, R1, S1, fun B => zts_nil (by rw [if_pos rfl]; exact fun B => (h B).mono fun y M4 ⟨a, b⟩ => ⟨⟨_, a, rfl⟩, b⟩)⟩
/-- each item gives one, of what the draws may give: the elements have the property P -/
theorem LcT.any (ds : List PyData) (J : MS → Prop) (P : PyData → Prop) {Φ : List W → MS → Prop} (hl : ds.length < sizeLine) (h0 : J M)
    (turn : ∀ d ∈ ds, ∀ M1, J M1 → ∀ B, ZGB (bk X scope B) vs tg (.d d) (wipeG Γ vs) M1 fun Γ2 M2 => ∀ B, ZE (bk X scope B) elt Γ2 M2 fun y M4 => (∃ z, y = .d z ∧ P z) ∧ J M4)
    (done : ∀ (zs : List PyData) M1, zs.length = ds.length → (∀ z ∈ zs, P z) → J M1 → Φ (zs.map .d) M1) : ∃ I, LcT X vs tg elt [] scope ds Γ M I Φ := by
  refine ⟨fun i acc M1 => J M1 ∧ i ≤ ds.length ∧ ∃ zs : List PyData, acc = zs.map .d ∧ zs.length = i ∧ ∀ z ∈ zs, P z, ⟨h0, Nat.zero_le _, [], rfl, rfl, by simp⟩, fun i d acc M1 hd ⟨hJ, hi, zs, e, hz, hP⟩ B => ?_, fun acc M1 ⟨hJ, _, zs, e, hz, hP⟩ => by rw [e]; exact done zs M1 hz hP hJ⟩
  subst e
  have hlt := (List.getElem?_eq_some_iff.mp hd).1
  intro F ι σ H v R S r
  refine wG.mono (turn d (List.mem_of_getElem? hd) M1 hJ B F ι σ H v R S r) ?_
  rintro σ' H' ⟨hw, F1, ι1, M2, Γ2, E1, R1, S1, h⟩
  refine ⟨hw, F1, ι1, M2, Γ2, E1, R1, S1, fun B => zts_nil (by
    rw [if_pos rfl]
    refine fun B => (h B).mono ?_
    rintro y M4 ⟨⟨z, rfl, hp⟩, hJ4⟩
    refine ⟨by rw [List.length_map]; omega, hJ4, hlt, zs ++ [z], by simp, by simp [hz], fun w hw => ?_⟩
    rcases List.mem_append.mp hw with q | q
    · exact hP w q
    · rw [List.mem_singleton.mp q]; exact hp)⟩
end
end Z

/-! Z14: small help; the bag of draws. -/
namespace Z
open PySem PySem.Spec PyProof.Rows L2
theorem ifd {p : Prop} [Decidable p] {A B : Prop} (h1 : p → A) (h2 : ¬p → B) : if decide p = true then A else B := by
  by_cases h : p
  · rw [if_pos (decide_eq_true h)]; exact h1 h
  · rw [if_neg (by simpa using h)]; exact h2 h
theorem ifb {p : Bool} {A B : Prop} (h1 : p = true → A) (h2 : p = false → B) : if p = true then A else B := by
  cases p with
  | true => rw [if_pos rfl]; exact h1 rfl
  | false => rw [if_neg Bool.false_ne_true]; exact h2 rfl
theorem ift {A B : Prop} (h : A) : if true = true then A else B := by rw [if_pos rfl]; exact h
theorem iff_ {A B : Prop} (h : B) : if false = true then A else B := by rw [if_neg Bool.false_ne_true]; exact h
/-- two ints asked alike -/
theorem ifeq {i j : Int} {A B : Prop} (h1 : i = j → A) (h2 : i ≠ j → B) : if PyData.eqv (.int i) (.int j) = true then A else B := by
  by_cases h : i = j
  · subst h; rw [if_pos (by simp [PyData.eqv])]; exact h1 rfl
  · rw [if_neg (by simpa [PyData.eqv] using h)]; exact h2 h
theorem ifeqs {i j : Str} {A B : Prop} (h1 : i = j → A) (h2 : i ≠ j → B) : if PyData.eqv (.str i) (.str j) = true then A else B := by
  by_cases h : i = j
  · subst h; rw [if_pos (by simp [PyData.eqv])]; exact h1 rfl
  · rw [if_neg (by simpa [PyData.eqv] using h)]; exact h2 h
/-- the bag -/
structure Bag where
  cur : Int
  st : Int
  ix : Int
  cells : List Int
structure Bag.Good (b : Bag) : Prop where
  cur : 0 ≤ b.cur
  st : 0 ≤ b.st
  st2 : b.st < 2147483647
  ix : 0 ≤ b.ix
  len : b.cells.length ≤ 63
  all : ∀ c ∈ b.cells, 0 ≤ c
def bagO (b : Bag) : MO := .lst [.d (.int b.cur), .d (.int b.st), .d (.int b.ix), .d (.list (b.cells.map .int))]
theorem sx {n : Nat} {i : Int} (h : 0 ≤ i) (d : Nat) : HT.sIx n d (some i) = min i.toNat n := by
  show (if i < 0 then (i + (n : Int)).toNat else min i.toNat n) = _
  rw [if_neg (by omega)]
theorem cutD_len {α : Type} (xs : List α) (lo hi : Option Int) : (cutD xs lo hi).length ≤ xs.length := by
  unfold cutD
  rw [List.length_take, List.length_drop]
  omega
theorem cutD_mem {α : Type} {xs : List α} {lo hi : Option Int} {x : α} (h : x ∈ cutD xs lo hi) : x ∈ xs := List.mem_of_mem_drop (List.mem_of_mem_take h)
theorem cutD_map {α β : Type} (f : α → β) (xs : List α) (lo hi : Option Int) : cutD (xs.map f) lo hi = (cutD xs lo hi).map f := by
  unfold cutD
  rw [List.length_map, List.map_take, List.map_drop]
theorem atI_nat {α : Type} {xs : List α} {n : Nat} {x : α} (h : xs[n]? = some x) : atI xs (n : Int) = some x := by
  have := (List.getElem?_eq_some_iff.mp h).1
  have e : ixN xs.length (n : Int) = some n := by
    unfold ixN
    simp
    omega
  unfold atI
  rw [e]
  exact h
theorem atI_zero {α : Type} (x : α) (xs : List α) : atI (x :: xs) 0 = some x := atI_nat (n := 0) rfl
theorem bag_head {b : Bag} (g : b.Good) : ∃ c : Int, 0 ≤ c ∧ atI (cutD (b.cells.map PyData.int) (some b.ix) none ++ [.int 0]) 0 = some (.int c) := by
  rw [cutD_map]
  cases e : cutD b.cells (some b.ix) none with
  | nil => exact ⟨0, by decide, rfl⟩
  | cons c r =>
    have hm : c ∈ cutD b.cells (some b.ix) none := by rw [e]; exact List.mem_cons_self
    exact ⟨c, g.all c (cutD_mem hm), atI_zero _ _⟩
theorem bag_size {b : Bag} (g : b.Good) (lo : Option Int) : (cutD (b.cells.map PyData.int) lo none).length + 1 ≤ sizeLine := by
  have := cutD_len (b.cells.map PyData.int) lo none
  rw [List.length_map] at this
  have := g.len
  show _ ≤ 2 ^ 24
  omega
def takeS : ZSp := fun ws M Φ => ∃ (b : Bag) (R : MS) (many : Int), ws = [.m 0, .d (.int many)] ∧ M = bagO b :: R ∧ b.Good ∧ 0 < many ∧ many < 1073741824 ∧
  ∀ (r : Int) (b' : Bag), 0 ≤ r → r < many → b'.Good → Φ (.d (.int r)) (bagO b' :: R)
end Z

/-! Z15: sets of ints: set(list), set comprehensions, sorted of them. -/
namespace Z
open PySem PySem.Spec PyProof.Rows L2
/-- the object of an empty set -/
abbrev set0 (w : World) : Obj := { cls := .type "set", dict := none, data := .set #[] 0 (.fresh 0 0 (!w.params.followText "set-order")) }
section
variable {P : Program} {w : World} {A : Around} {E : Value → Shared → Prop} {s : Shared}
/-- set(l), l a list of ints -/
theorem set_ofList {l : Addr} {us : Array Value} (ns : List Int) {Q : Value → Shared → Prop} (hh : A.handled = none) (hl : s.heap.IsList l us) (hit : IntsAre us.toList ns) (hb : ns.length + 1 < scanBound)
    (h : ∀ (h' : Heap) (tk c : Nat), SetR w h' s.heap.objs.size (fun j => decide (j ∈ ns)) c → c ≤ ns.length → (∀ b o, s.heap.get? b = some o → h'.get? b = some o) → Q (.ref s.heap.objs.size) { s with heap := h', toks := tk }) :
    wpAny (model P w) A (call (.type "set") [.ref l]) Q E s := by
  generalize hp : s.heap.objs.size = p at h
  have sz : us.size = ns.length := by rw [← IntsAre.length hit, Array.length_toList]
  obtain ⟨c, tl, hmro⟩ := F.called_set.mro
  have hmade := F.called_set.made
  have hsub := F.called_set.sub
  refine wpAny_call (codeAny_of_tree ?_)
  show wpAny _ _ (callAny (.type "set") _) _ _ _
  refine wpAny_pure ⟨Code.quiet_builtin _ (by decide +kernel), codeAny_builtin F.entry_type_call ?_⟩
  rw [Around.under_plain (weight_type_call_type "set" [.ref l] []) rfl]
  have t1 := F.called_set.notType
  have t2 := F.called_set.canCreate
  have t3 := F.typeCall_set_1 (.ref l)
  repeat (any_goals (first | assumption | wp_step))
  generalize hH1 : s.heap.push (set0 w) = H1
  have new : H1.get? p = some (set0 w) := by rw [← hH1, ← hp]; exact Heap.get?_push_size _ rfl
  have old : ∀ b o, s.heap.get? b = some o → H1.get? b = some o := fun b o e => by rw [← hH1]; exact Heap.get?_push_of_some _ e
  have sz1 : H1.objs.size = p + 1 := by rw [← hH1, ← hp]; exact Heap.size_push ..
  refine codeAny_mono (code_set_led1 (.ref l) (E := E) (Q₁ := fun v s₁ => v = .ref p ∧ s₁ = { s with heap := H1 }) ⟨by rw [← hp], by rw [← hH1]⟩) fun r s₁ hr => ?_
  rcases r with e | f
  · exact hr
  cases f with
  | next => exact hr.elim
  | brk => exact hr.elim
  | cont => exact hr.elim
  | ret v =>
    obtain ⟨rfl, rfl⟩ := hr
    have ty : Shared.TypeIs { s with heap := H1 } (.ref p) "set" := ⟨_, new, rfl⟩
    have i1 := F.called_set.init.lookup
    have i2 := F.called_set.init.bind (.ref p)
    repeat (any_goals (first | assumption | wp_step))
    refine codeAny_mono (codeAny_call_builtin (R := wants (fun r s₂ => r = .none ∧ ∃ h' tk c, s₂ = { s with heap := h', toks := tk } ∧ SetR w h' p (fun j => decide (j ∈ ns)) c ∧ c ≤ ns.length ∧ ∀ b o, s.heap.get? b = some o → h'.get? b = some o) E)
      F.called_set.init.plain F.entry_set_init (check_set_init_1 ty ?_)) fun r₂ s₂ hr₂ => ?_
    · obtain ⟨⟨ocls, odict, odata, oslots⟩, hol, hcl, nl, hdl⟩ := hl
      simp only at hcl hdl
      subst hcl
      subst hdl
      have hol' := old _ _ hol
      have hsls := F.sub_list_set
      have hslf := F.sub_list_frozenset
      have hne : (Value.type "list" == Value.type "dict") = false := by decide
      have hl1 : H1.IsList l us := ⟨_, hol', rfl, nl, rfl⟩
      have lp : l < p := by rw [← hp]; exact Heap.lt_size hol
      unfold Builtin.«set.__init__» noKeywords Builtin.Frozenset.updateFrom
      generalize hPI : pyIter = PI
      wp_walk
      subst hPI
      refine wpAny_pyIter_list hl1 ?_
      refine wpAny_bind (wpAny_runValue ?_)
      refine set_update_ints ((Walks.list (by simp [hh]) _ l (by rw [sz1]; exact Nat.ne_of_lt (Nat.lt_succ_of_lt lp)) us).toS) p (by rw [sz1]; simp only [List.mem_cons, List.not_mem_nil, or_false, not_or]; exact ⟨Nat.ne_of_lt (Nat.lt_succ_self _), Nat.ne_of_gt lp⟩) ns sz hb (fun i v hv => ?_)
        (us.size - 0) 0 _ (by omega) (Nat.zero_le _) ⟨⟨_, Heap.get?_push_size _ rfl, rfl, rfl⟩, hl1.push _⟩ ⟨0, Nat.le_refl 0, setR_new_at (Heap.get?_push_of_some _ new)⟩ ?_
      · have hi : i < ns.length := by rw [← sz]; exact (Array.getElem?_eq_some_iff.mp hv).1
        obtain ⟨t, e⟩ := PyProof.Rows.IntsAre.int_at hit i v (by rw [Array.getElem?_toList]; exact hv)
        exact ⟨ns[i], t, List.getElem?_eq_getElem hi, by rw [e, List.getD_eq_getElem?_getD, List.getElem?_eq_getElem hi]; rfl⟩
      · intro s' c' hm hc' hS'
        obtain ⟨h', g2, d', tk', os'⟩ := s'
        obtain rfl : g2 = s.gens := hm.gens
        obtain rfl : d' = s.drawn := hm.drawn
        obtain rfl : os' = s.os := hm.os
        show wpAny _ _ _ _ _ _
        refine wpAny_pure ?_
        show wpAny _ _ (ret Value.none) _ _ _
        refine wpAny_pure ⟨rfl, h', tk', c', rfl, hS', by rw [← sz]; exact hc', fun b o e => hm.heap b o ?_ (Heap.get?_push_of_some _ (old b o e))⟩
        have lb : b < p := by rw [← hp]; exact Heap.lt_size e
        rw [sz1]
        simp only [List.mem_cons, List.not_mem_nil, or_false, not_or]
        exact ⟨Nat.ne_of_lt lb, Nat.ne_of_lt (Nat.lt_succ_of_lt lb)⟩
    · rcases r₂ with e | f₂
      · exact hr₂
      cases f₂ with
      | next => exact hr₂.elim
      | brk => exact hr₂.elim
      | cont => exact hr₂.elim
      | ret r =>
        obtain ⟨rfl, h', tk, c', rfl, hS', hc', hk'⟩ := hr₂
        repeat (any_goals (first | assumption | wp_step))
        exact h _ _ _ hS' hc' hk'
end
end Z

/-! Z16: sets of ints as values, {e for x in xs if c}, sorted of them. -/
namespace Z
open PySem PySem.Spec PyProof.Rows L2
section
variable {X : Cx}
theorem ints_are : ∀ {ns : List Int} {us : List Value}, Vals (ns.map V.int) us → IntsAre us ns
  | [], _, h => by cases h; exact .nil
  | n :: ns, _, h => by
    cases h with
    | cons a b =>
      obtain ⟨k, rfl⟩ := a
      exact .cons n k (ints_are b)
/-- set(xs), a list of ints -/
def rSetI (w : World) : List V → Hp → VK → Prop := fun xs H Q => ∃ (a : Addr) (ns : List Int), xs = [.ref a] ∧ H a = some (.lst (ns.map V.int)) ∧ ns.length + 1 < scanBound ∧
  ∀ p c, H p = none → c ≤ ns.length → Q (.ref p) (upd H p (SetO w p (fun j => decide (j ∈ ns)) c))
theorem cr_setI (hc : X.calm = true) : CallR X (.type "set") (rSetI X.w) := by
  intro pins s σ H xs us Q I r h
  obtain ⟨a, ns, rfl, ha, hb, q⟩ := h
  rw [Vals.ref1 r]
  obtain ⟨its, rv, pl, hz⟩ := I.list (.inl (.inl ha))
  refine set_ofList ns (I.ok.hd hc) pl.isList (by simpa using ints_are rv) hb fun h' tk c hS hc k => ?_
  exact ⟨.ref _, upd H s.heap.objs.size (SetO X.w s.heap.objs.size _ c), I.laid (t' := tk) k (Nat.le_refl _) (setO_new hS), rfl, q _ c (I.hok.fresh (Nat.le_refl _)) hc⟩
/-- one more in the set -/
theorem add_int {pins : List (Addr × Obj)} {σ : L2.St} {H : Hp} {s : Shared} {E : Value → Shared → Prop} {D : Addr} {S : Int → Bool} {n : Nat} {y : Int} {t : Tok} {Q : Value → Shared → Prop} (I : Inv X pins σ H s) (hD : H D = some (SetO X.w D S n)) (room : n + 1 < scanBound)
    (h : ∀ s', Inv X pins σ (upd H D (SetO X.w D (fun j => S j || decide (j = y)) (if S y = true then n else n + 1))) s' → Q .none s') : wpAny (model X.prog X.w) X.A (call (.builtin "set.add") [.ref D, .int y t]) Q E s :=
  setR_add (setO_get I hD) room fun h' sb new => by
    obtain ⟨o, _, _, _, ho, _⟩ := id new
    exact h _ (I.write (e := D) (t' := s.toks + 1) (by rw [hD]; trivial) (.inl rfl) (fun b u hb hu => (sb.2 b hb).trans hu) ⟨o, ho⟩ (setO_new new))
/-- {elt for target in iter if ..}, elt an int: D the new set -/
def tSci (w : World) (wi : TI) (g : TG) (tt : TT) (te : TE) (vs : List Nat) : TE := fun σ H Q => wi σ H fun J H1 => ∀ D, H1 D = none → ∃ W : Nat → Nat → Hp → Prop, (∃ m, W 0 m (upd H1 D (SetO w D (fun _ => false) 0))) ∧ ∀ i m H, W i m H →
  (J.stop i H ∧ Q (.ref D) H) ∨ (J.go i H ∧ ∃ Nx : Hp → Prop, (∀ H', Nx H' → ∃ m', m' < m ∧ W (i + 1) m' H') ∧ ∀ x H', J.yld i H x H' → g x (wipe σ vs) H' fun σ2 H2 => wipe σ2 vs = wipe σ vs ∧ tt σ2 H2 fun b H3 =>
    if b = true then te σ2 H3 fun y H4 => ∃ (c : Int) (S : Int → Bool) (n : Nat), y = .int c ∧ H4 D = some (SetO w D S n) ∧ n + 1 < scanBound ∧ Nx (upd H4 D (SetO w D (fun j => S j || decide (j = c)) (if S c = true then n else n + 1))) else Nx H3)
theorem pe_sci {elt tg iter : Expr} {ifs : List Expr} {scope : Scope} {own : List (PySem.Str × Nat)} {pos : Pos} {wi : TI} {g : TG} {tt : TT} {te : TE} (hc : X.calm = true) (hN : X.N.Nodup) (hi : PI X tg iter wi) (ok : BlkOk X.N X.env.scope scope own)
    (hg : ∀ (s : Shared) (H : Hp) (C : Addr) (cl : List (PySem.Str × Addr)) (fp : List Addr), PG (X.blk s H scope (compEnvC scope cl C X.env) fp) tg g) (ht : ∀ (s : Shared) (H : Hp) (C : Addr) (cl : List (PySem.Str × Addr)) (fp : List Addr), PTs (X.blk s H scope (compEnvC scope cl C X.env) fp) ifs tt)
    (he : ∀ (s : Shared) (H : Hp) (C : Addr) (cl : List (PySem.Str × Addr)) (fp : List Addr), PE (X.blk s H scope (compEnvC scope cl C X.env) fp) elt te) (hs : ∀ x, foldedSetIterable iter X.env x = pure x := by intro _; rfl) :
    PE X (.SetComp elt [⟨tg, iter, ifs, 0⟩] scope pos) (tSci X.w wi g tt te (own.map (·.2))) := by
  refine ⟨fun pins s σ H Q I h => ?_⟩
  rw [PpSet.eval_SetComp]
  have hfree : ∀ y ∈ scope.names, y.2 = .free → ∃ c, X.env.cells.lookup y.1 = some c := fun y hy e => I.ok.has _ (ok.free y hy e)
  refine wpAny_comprehension_free (use := none) rfl hs (closure_ok hfree) ok.kind (fun y hy e => by rw [ok.uniq y hy, e]) (thn (hi.run pins s σ H _ I h) fun xv s1 hx => thn hx fun itv s2 h2 => ?_)
  obtain ⟨it, fp, tn, J, H2, rfl, I2, T, st2, f2, q⟩ := h2
  refine PpSet.newSet_ok (newEnv_comp ?_)
  generalize hD : s2.heap.objs.size = D
  obtain ⟨W, ⟨m0, w0⟩, turn⟩ := q D (I2.hok.fresh (Nat.le_of_eq hD))
  generalize hs3 : ({ s2 with heap := s2.heap.push (set0 X.w) } : Shared) = s3
  have I3 : Inv X pins σ (upd H2 D (SetO X.w D (fun _ => false) 0)) s3 := by
    rw [← hs3]
    refine I2.laid (t' := s2.toks) (fun b o e => Heap.get?_push_of_some _ e) (Nat.le_of_eq hD) ?_
    rw [← hD]
    exact setO_new (setR_fresh X.w)
  have h3 : s3.heap = s2.heap.push (set0 X.w) := by rw [← hs3]
  have sz : ∀ b ∈ fp, b < s2.heap.objs.size := fun b hb => by
    obtain ⟨o, e, _⟩ := T.obj _ _ st2 b hb
    exact Heap.lt_size e
  have f3 : ∀ b ∈ fp, FpOk X pins (upd H2 D (SetO X.w D (fun _ => false) 0)) b ∧ b < s3.heap.objs.size := fun b hb =>
    ⟨⟨by rw [upd_ne (by rw [← hD]; exact Nat.ne_of_lt (sz b hb))]; exact (f2 b hb).1, (f2 b hb).2⟩, by rw [h3, Heap.size_push]; exact Nat.lt_succ_of_lt (sz b hb)⟩
  have st3 : tn 0 s3.heap := T.keep _ _ _ st2 fun b _ o e => by rw [h3]; exact Heap.get?_push_of_some _ e
  have I4 := block_start I3 ok hN f3
  have pg := hg s3 (upd H2 D (SetO X.w D (fun _ => false) 0)) s3.heap.objs.size (cellsFrom (s3.heap.objs.size + 1) scope.names (cloFrom X.env.cells scope.names [])) fp
  have pt := ht s3 (upd H2 D (SetO X.w D (fun _ => false) 0)) s3.heap.objs.size (cellsFrom (s3.heap.objs.size + 1) scope.names (cloFrom X.env.cells scope.names [])) fp
  have pe := he s3 (upd H2 D (SetO X.w D (fun _ => false) 0)) s3.heap.objs.size (cellsFrom (s3.heap.objs.size + 1) scope.names (cloFrom X.env.cells scope.names [])) fp
  have nfp : ∀ b ∈ fp, (upd H2 D (SetO X.w D (fun _ => false) 0)) b = none := fun b hb => (f3 b hb).1.1
  show codeAny _ _ (.compStart (.SetComp elt [⟨tg, iter, ifs, 0⟩] scope pos) 0 (.ref it) (.ref D) (compEnvC scope (cellsFrom (s3.heap.objs.size + 1) scope.names (cloFrom X.env.cells scope.names [])) s3.heap.objs.size X.env)) _ { s3 with heap := pushCells (s3.heap.push { cls := .type "dict", data := .dict #[] }) scope.names }
  generalize hce : compEnvC scope (cellsFrom (s3.heap.objs.size + 1) scope.names (cloFrom X.env.cells scope.names [])) s3.heap.objs.size X.env = ce at I4 pg pt pe ⊢
  have cL : ce.locals = s3.heap.objs.size := by subst hce; rfl
  generalize hH3 : upd H2 D (SetO X.w D (fun _ => false) 0) = H3 at I3 I4 pg pt pe w0 nfp f3
  generalize hs4 : ({ s3 with heap := pushCells (s3.heap.push { cls := .type "dict", data := .dict #[] }) scope.names } : Shared) = s4 at I4 ⊢
  have st4 : tn 0 s4.heap := T.keep _ _ _ st3 fun b _ o e => by rw [← hs4]; exact pushCells_keeps _ _ _ _ (Heap.get?_push_of_some _ e)
  have pins0 : ∀ {σ' : L2.St} {H' : Hp} {s' : Shared}, Inv (X.blk s3 H3 scope ce fp) [] σ' H' s' → (∀ b ∈ fp, H' b = none) → ∀ b ∈ fp, FpOk (X.blk s3 H3 scope ce fp) [] H' b := fun I' hn b hb =>
    ⟨hn b hb, (I'.ok.exf b hb).1, I'.ok.exfs b hb, .inl hb, fun x c e => (I'.ok.exf b hb).2 x c e, fun p hp => absurd hp (by simp)⟩
  have main : codeAny (model X.prog X.w) X.A (.compLoop (.SetComp elt [⟨tg, iter, ifs, 0⟩] scope pos) 0 (.ref it) (.ref D) ce) (compPost (model X.prog X.w) X.A X.xe none (EP X pins σ Q) (.ref D) s3.heap.objs.size) s4 := by
    refine PpSet.compLoopS_any (fun n s' => ∃ i H', Inv (X.blk s3 H3 scope ce fp) [] (wipe σ (own.map (·.2))) H' s' ∧ tn i s'.heap ∧ (∀ b ∈ fp, H' b = none) ∧ W i n H') ?_ m0 ⟨0, H3, I4, st4, nfp, w0⟩
    rintro n s5 ⟨i, H5, I5, st5, n5, w5⟩
    rcases turn i n H5 w5 with ⟨stop, qq⟩ | ⟨go, Nx, hNx, step⟩
    · refine thnF (T.done (X.blk s3 H3 scope ce fp) rfl rfl rfl hc i [] s5 _ H5 (fun _ _ => False) I5 (pins0 I5 n5) st5 stop) fun r s6 ⟨hr, I6⟩ => ?_
      subst hr
      have I7 : Inv X pins σ H5 s6 := I3.call' (ch := fp) I6.os I6.base I6.hok I6.bare fun b hb => ⟨(f3 b hb).1.2.2.2.1, (f3 b hb).1.2.1, (f3 b hb).1.2.2.2.2.1, (f3 b hb).1.2.2.2.2.2⟩
      have nC : H5 s3.heap.objs.size = none := by rw [← cL]; exact I6.free
      obtain ⟨m, hn, _⟩ := I6.loc
      have hn' : s6.heap.Ns ce.locals m := hn
      rw [cL] at hn'
      refine ⟨m, hn', fun h'' sb => ?_⟩
      obtain ⟨f0, f1, f2, f3, f4, f5⟩ := I3.fpOk (Nat.le_refl _) nC
      exact ⟨.ref D, H5, I7.turned (t' := s6.toks) (fun b o hb e => (sb.2 b hb).trans e) f0 f1 f3 f4 f5, rfl, qq⟩
    · refine thnF (T.item (X.blk s3 H3 scope ce fp) rfl rfl rfl hc i [] s5 _ H5 (fun _ _ => False) I5 (pins0 I5 n5) st5 go) fun r s6 ⟨u, hr, h6⟩ => ?_
      subst hr
      refine thnF h6 fun _ s7 ⟨x, H7, I7, r7, y7, st7, n7⟩ => ?_
      refine thnF (pg.run _ s7 _ H7 x u _ (I7.pinned (pins0 I7 n7) (T.obj _ _ st7)) r7 (step x H7 y7)) fun _ s8 ⟨σ8, H8, I8, hw8, q8⟩ => ?_
      refine thnF (pt.run _ s8 σ8 H8 _ I8 q8) fun b s9 ⟨H9, I9, q9⟩ => ?_
      have next : ∀ {s' : Shared} {H' : Hp}, Inv (X.blk s3 H3 scope ce fp) ([] ++ pinsAt fp s7.heap) σ8 H' s' → Nx H' → ∃ m, m < n ∧ ∃ i H', Inv (X.blk s3 H3 scope ce fp) [] (wipe σ (own.map (·.2))) H' s' ∧ tn i s'.heap ∧ (∀ b ∈ fp, H' b = none) ∧ W i m H' := fun {s' H'} I' nx => by
        obtain ⟨m', hm, w'⟩ := hNx H' nx
        have kept : ∀ b ∈ fp, ∀ o, s7.heap.get? b = some o → s'.heap.get? b = some o ∧ H' b = none := fun b hb o e =>
          let z := I'.pin (b, o) (List.mem_append_right _ (List.mem_append_right _ (mem_pinsAt hb e)))
          ⟨z.1, z.2.1⟩
        refine ⟨m', hm, i + 1, H', (I'.unpinned (pins := [])).weak (by rw [← hw8, wipe_length]) (fun j v e => ?_), T.keep _ _ _ st7 fun b hb o e => (kept b hb o e).1, fun b hb => ?_, w'⟩
        · rw [← hw8] at e
          exact (wipe_some e).1
        · obtain ⟨o, e, _⟩ := T.obj _ _ st7 b hb
          exact (kept b hb o e).2
      cases b with
      | false =>
        simp only [Bool.false_eq_true, if_false] at q9 ⊢
        exact next I9 q9
      | true =>
        simp only [if_true] at q9 ⊢
        refine thnF (pe.run _ s9 σ8 H9 _ I9 q9) fun z s10 ⟨yv, H10, I10, r10, k, S0, n0, ey, hD10, hz10, nx⟩ => ?_
        subst ey
        obtain ⟨tk, rfl⟩ := r10
        exact add_int (X := X.blk s3 H3 scope ce fp) I10 hD10 hz10 fun s11 I11 => next I11 nx
  exact PpSet.codeAny_compStart_set main (T.self X.A 0 _ _ _ st4 main)
end
end Z

/-! Z17: sorted(set(xs)), sorted({e for x in xs if c}), whole numbers. -/
namespace Z
open PySem PySem.Spec PyProof.Rows L2
section
variable {X : Cx} {tg it elt e : Expr} {ifs : List Expr} {scope : Scope} {Γ : GS} {M : MS} {D : ZD} {pos pos2 p p2 : Pos} {Φ : W → MS → Prop}
theorem out_new {F H : Hp} {ι : List Addr} {M : MS} {L : Addr} {o : HO} (R : Rep F H ι M) (n : H L = none) : Ext F ι H F ι (upd H L o) ∧ Rep F (upd H L o) ι M ∧ F L = none ∧ L ∉ ι := by
  have nF : F L = none := R.sub.free n
  have nι : L ∉ ι := fun z => by
    obtain ⟨o', e⟩ := R.tr L z
    rw [n] at e; cases e
  exact ⟨⟨Same.refl F, ⟨[], by simp⟩, fun a x e _ => by rw [upd_ne (ne_of_none e n)]; exact e, fun a h k => absurd h k, fun a x e k => by rw [k] at e; cases e⟩, out_put R nF nι, nF, nι⟩
/-- the same ints, rising -/
def RiseW (ns : List Int) (Ψ : List Int → Prop) : Prop := ∀ ks : List Int, ks.Pairwise (· < ·) → (∀ k, k ∈ ks ↔ k ∈ ns) → Ψ ks
theorem sorted_end {F H : Hp} {ι : List Addr} {Q : VK} {D : Addr} {ns : List Int} {c : Nat} (R : Rep F H ι M) (hD : H D = some (SetO X.w D (fun j => decide (j ∈ ns)) c)) (hc : c < 64)
    (φ : RiseW ns fun ks => Φ (.d (.list (ks.map .int))) M) (hQ : ∀ z H', Post F ι H Φ z H' → Q z H') : rSortedSet X.w [.ref D] H Q :=
  ⟨D, _, c, rfl, hD, hc, fun ks q pw hm hl n => lay_lst R .of_ints (φ ks pw fun k => by rw [hm k]; simp) hQ q n⟩
theorem zk_sortedSet (bs : X.mg "sorted" = none) (bt : X.mg "set" = none) (hc : X.calm = true) (h : ZE X e Γ M fun y M1 => ∃ ns : List Int, y = .d (.list (ns.map .int)) ∧ ns.length < 64 ∧ RiseW ns fun ks => Φ (.d (.list (ks.map .int))) M1)
    (hg : Gl X "sorted" := by rfl) (hg2 : Gl X "set" := by rfl) (sy : CSyn X (.Call (.Name "set" p2) [e] [] pos2) [] pos := by exact ⟨by rfl, by rfl⟩) (sy2 : CSyn X e [] pos2 := by exact ⟨by rfl, by rfl⟩) :
    ZE X (.Call (.Name "sorted" p) [.Call (.Name "set" p2) [e] [] pos2] [] pos) Γ M Φ := fun F ι σ H R S => by
  refine w_e (pe_callB (cr_sortedSet hc) hg bs bt_sorted (pa_cons (pe_callTy (cr_setI hc) hg2 bt bt_set (pa_cons pe_w pa_nil sy2.star) (he := sy2.star) (hpl := sy2.plain)) pa_nil sy.star) (he := sy.star) (hpl := sy.plain)) ?_
  refine (h F ι σ H R S).mono ?_
  rintro v H1 ⟨F1, ι1, M1, y, E1, R1, rv, ns, rfl, hl, φ⟩
  obtain ⟨c, vs, rfl, f, r⟩ := At.lst_ rv
  rw [r.ints] at f
  refine ⟨c, ns, rfl, R1.sub _ _ f, by unfold scanBound; omega, fun q k n hk => ?_⟩
  obtain ⟨E2, R2, nF, nι⟩ := out_new (o := SetO X.w q (fun j => decide (j ∈ ns)) k) R1 n
  exact sorted_end R2 upd_same (Nat.lt_of_le_of_lt hk hl) φ fun z H' p => Post.ext (E1.trans E2) p
theorem sc_read {vs : List Nat} {F : Hp} {ι : List Addr} {σ : St} {H : Hp} {Φl : List W → MS → Prop} {Q : VK} (S : Slots F ι σ Γ) (R : Rep F H ι M)
    (h : ZI X tg it Γ M fun ds M1 => ∃ I, LcT X vs tg elt ifs scope ds Γ M1 I Φl ∧ ∀ i acc M2, I i acc M2 → ∃ ks : List Int, acc = ks.map (fun k => .d (.int k)) ∧ ks.length < 64)
    (fin : ∀ L H' F' ι' M' (ks : List Int) c, Ext F ι H F' ι' H' → Rep F' H' ι' M' → H' L = some (SetO X.w L (fun j => decide (j ∈ ks)) c) → c ≤ ks.length → ks.length < 64 → Φl (ks.map fun k => .d (.int k)) M' → Q (.ref L) H') :
    tSci X.w (wI X tg it) (bG X scope tg) (bTs X scope ifs) (bE X scope elt) vs σ H Q := by
  refine (h F ι σ H R S).mono ?_
  rintro J H1 ⟨F1, ι1, M1, ds, E1, R1, yd, I, T, hin⟩ L nL
  obtain ⟨_, R1', nF1, nι1⟩ := out_new (o := SetO X.w L (fun _ => false) 0) R1 nL
  have nι : L ∉ ι := fun z => by
    obtain ⟨r, rfl⟩ := E1.pre
    exact nι1 (List.mem_append_left r z)
  have nH : H L = none := by
    cases e : H L with
    | none => rfl
    | some o => rw [E1.kp L o e nι] at nL; cases nL
  let W : Nat → Hp → Prop := fun i H' => i ≤ ds.length ∧ ∃ F' ι' M', ∃ ks : List Int, ∃ c, Ext F ι H F' ι' H' ∧ Same F1 F' ∧ Rep F' H' ι' M' ∧ H' L = some (SetO X.w L (fun j => decide (j ∈ ks)) c) ∧ c ≤ ks.length ∧ F' L = none ∧ L ∉ ι' ∧ I i (ks.map fun k => .d (.int k)) M'
  have put : ∀ {F' ι' H' o}, Ext F ι H F' ι' H' → Ext F ι H F' ι' (upd H' L o) := fun E => ⟨E.same, E.pre, fun a x e m => by
    rw [upd_ne (ne_of_none e nH)]; exact E.kp a x e m, E.fr, E.nw⟩
  refine ⟨fun i m H' => m = ds.length - i ∧ W i H', ⟨ds.length, rfl, Nat.zero_le _, F1, ι1, M1, [], 0, put E1, Same.refl _, R1', by rw [upd_same]; rfl, Nat.zero_le _, nF1, nι1, T.zero⟩, ?_⟩
  rintro i m H' ⟨rfl, hi, F2, ι2, M2, ks, c, E2, s2, R2, hL, hc, nF2, nι2, hI⟩
  have y := yd F2 H' s2 R2.sub i
  have short : ks.length < 64 := by
    obtain ⟨ks', e, hl⟩ := hin i _ M2 hI
    have := congrArg List.length e
    simp only [List.length_map] at this
    omega
  by_cases hlt : i < ds.length
  · obtain ⟨go, st⟩ := y.1 _ (List.getElem?_eq_getElem hlt)
    refine .inr ⟨go, W (i + 1), fun H3 w3 => ⟨ds.length - (i + 1), by omega, rfl, w3⟩, fun x H3 hy B => ?_⟩
    obtain ⟨F3, g, ax⟩ := st x H3 hy
    obtain ⟨E3, R3⟩ := R2.grow g
    have tn := T.turn i _ _ M2 (List.getElem?_eq_getElem hlt) hI
    refine wG.mono (tn B F3 ι2 _ H3 x R3 ((E3.slots (E2.slots S)).wipe vs) ax) ?_
    rintro σ4 H4 ⟨hw, F4, ι4, M4, Γ4, E4, R4, S4, h4⟩
    rw [wipe_wipe] at hw
    obtain ⟨hL3, nF3, nι3⟩ := out_kept E3 hL nF2 nι2
    obtain ⟨hL4, nF4, nι4⟩ := out_kept E4 hL3 nF3 nι3
    refine ⟨hw, fun B => wTs.mono (h4 B F4 ι4 σ4 H4 R4 S4) ?_⟩
    rintro b H5 ⟨F5, ι5, M5, E5, R5, h5⟩
    obtain ⟨hL5, nF5, nι5⟩ := out_kept E5 hL4 nF4 nι4
    have E25 := (((E2.trans E3).trans E4).trans E5)
    have s5 : Same F1 F5 := ((s2.trans E3.same).trans E4.same).trans E5.same
    cases b with
    | false =>
      rw [if_neg Bool.false_ne_true] at h5 ⊢
      exact ⟨hlt, F5, ι5, M5, ks, c, E25, s5, R5, hL5, hc, nF5, nι5, h5⟩
    | true =>
      rw [if_pos rfl] at h5 ⊢
      refine fun B => wE.mono (h5 B F5 ι5 σ4 H5 R5 (E5.slots S4)) ?_
      rintro z H6 ⟨F6, ι6, M6, zw, E6, R6, rz, hz, h6⟩
      obtain ⟨hL6, nF6, nι6⟩ := out_kept E6 hL5 nF5 nι5
      obtain ⟨ks', e, hl⟩ := hin _ _ _ h6
      obtain ⟨k, rfl⟩ : ∃ k : Int, zw = .d (.int k) := by
        have q : zw ∈ ks'.map (fun k : Int => Z.W.d (.int k)) := by rw [← e]; simp
        obtain ⟨k, _, q⟩ := List.mem_map.mp q
        exact ⟨k, q.symm⟩
      obtain rfl := At.int_ rz
      refine ⟨k, _, c, rfl, hL6, by unfold scanBound; omega, hlt, F6, ι6, M6, ks ++ [k], (if decide (k ∈ ks) = true then c else c + 1), put (E25.trans E6), s5.trans E6.same, out_put R6 nF6 nι6, ?_, ?_, nF6, nι6, by rw [List.map_append]; exact h6⟩
      · rw [upd_same]
        congr 2
        funext j
        simp [List.mem_append]
      · rw [List.length_append]
        split <;> simp <;> omega
  · have e : i = ds.length := by omega
    subst e
    exact .inl ⟨y.2 (Nat.le_refl _), fin L H' F2 ι2 M2 ks c E2 R2 hL hc short (T.done _ M2 hI)⟩
theorem zk_sortedSc {own : List (Str × Nat)} (bs : X.mg "sorted" = none) (hc : X.calm = true) (hN : X.N.Nodup) (ok : BlkOk X.N X.env.scope scope own)
    (h : ZI X tg it Γ M fun ds M1 => ∃ I, LcT X (own.map (·.2)) tg elt ifs scope ds Γ M1 I (fun acc M2 => ∀ ks : List Int, acc = ks.map (fun k => .d (.int k)) → RiseW ks fun ks' => Φ (.d (.list (ks'.map .int))) M2) ∧
      ∀ i acc M2, I i acc M2 → ∃ ks : List Int, acc = ks.map (fun k => .d (.int k)) ∧ ks.length < 64) (hs : ∀ x, foldedSetIterable it X.env x = pure x := by intro _; rfl)
    (hg : Gl X "sorted" := by rfl) (sy : CSyn X (.SetComp elt [⟨tg, it, ifs, 0⟩] scope pos2) [] pos := by exact ⟨by rfl, by rfl⟩) :
    ZE X (.Call (.Name "sorted" p) [.SetComp elt [⟨tg, it, ifs, 0⟩] scope pos2] [] pos) Γ M Φ := fun F ι σ H R S => by
  refine w_e (pe_callB (cr_sortedSet hc) hg bs bt_sorted (pa_cons (pe_sci hc hN pi_w ok pg_b pts_b pe_b hs) pa_nil sy.star) (he := sy.star) (hpl := sy.plain)) ?_
  show tSci X.w _ _ _ _ _ σ H (fun x H1 => rSortedSet X.w [x] H1 (Post F ι H Φ))
  refine sc_read S R h ?_
  intro L H' F' ι' M' ks c E R' hL hc' hk φ
  exact sorted_end R' hL (by omega) (φ ks rfl) fun z H' p => Post.ext E p
theorem ScT.pure {α : Type} {vs : List Nat} (xs : List α) (enc : α → PyData) (g : α → Option Int) {Φ : List W → MS → Prop} (hl : xs.length < 64)
    (turn : ∀ x ∈ xs, ∀ B, ZGB (bk X scope B) vs tg (.d (enc x)) (wipeG Γ vs) M fun Γ2 M2 => ∀ B, ZTs (bk X scope B) ifs Γ2 M2 fun b M3 => if b = true then ∀ B, ZE (bk X scope B) elt Γ2 M3 fun y M4 => (∃ z, y = .d (.int z) ∧ g x = some z) ∧ M4 = M else g x = none ∧ M3 = M)
    (done : Φ ((xs.filterMap g).map fun k => .d (.int k)) M) : ∃ I, LcT X vs tg elt ifs scope (xs.map enc) Γ M I Φ ∧ ∀ i acc M2, I i acc M2 → ∃ ks : List Int, acc = ks.map (fun k => .d (.int k)) ∧ ks.length < 64 := by
  refine ⟨fun i acc M1 => M1 = M ∧ acc = ((xs.take i).filterMap g).map fun k => .d (.int k), ⟨⟨rfl, rfl⟩, fun i d acc M1 hd ⟨e1, e2⟩ B => ?_, fun acc M1 ⟨e1, e2⟩ => ?_⟩, fun i acc M2 ⟨_, e⟩ => ⟨_, e, ?_⟩⟩
  · subst e1 e2
    rw [List.getElem?_map] at hd
    cases hx : xs[i]? with
    | none => rw [hx] at hd; cases hd
    | some x =>
      rw [hx] at hd
      cases hd
      have hm : x ∈ xs := List.mem_of_getElem? hx
      have tk : xs.take (i + 1) = xs.take i ++ [x] := by rw [List.take_add_one, hx]; rfl
      intro F ι σ H v R S r
      refine wG.mono (turn x hm B F ι σ H v R S r) ?_
      rintro σ' H' ⟨hw, F1, ι1, M2, Γ2, E1, R1, S1, h⟩
      refine ⟨hw, F1, ι1, M2, Γ2, E1, R1, S1, fun B F ι σ H R S => wTs.mono (h B F ι σ H R S) ?_⟩
      rintro b H2 ⟨F2, ι2, M3, E2, R2, h2⟩
      refine ⟨F2, ι2, M3, E2, R2, ?_⟩
      cases b with
      | false =>
        rw [if_neg Bool.false_ne_true] at h2 ⊢
        refine ⟨h2.2, ?_⟩
        rw [tk, List.filterMap_append, show [x].filterMap g = [] by simp [h2.1], List.append_nil]
      | true =>
        rw [if_pos rfl] at h2 ⊢
        refine fun B => (h2 B).mono ?_
        rintro y M4 ⟨⟨z, rfl, hg⟩, rfl⟩
        refine ⟨?_, rfl, ?_⟩
        · rw [List.length_map]
          have h1 := List.length_filterMap_le g (xs.take i)
          rw [List.length_take] at h1
          show _ < 2 ^ 24
          omega
        · rw [tk, List.filterMap_append, show [x].filterMap g = [z] by simp [hg], List.map_append]
          rfl
  · subst e1 e2
    rw [List.length_map, List.take_length]
    exact done
  · have h1 := List.length_filterMap_le g (xs.take i)
    rw [List.length_take] at h1
    omega
end
end Z

/-! Z18: dict(zip(xs, ys)), xs a list and ys a tuple of one length. -/
namespace Z
open PySem PySem.Spec PyProof.Rows L2
section
variable {P : Program} {w : World} {A : Around} {E : Value → Shared → Prop} {s : Shared}
/-- the two walks of the zip: a list's at i1, a tuple's at i2, both at place k -/
structure Two (h : Heap) (TI i1 i2 l1 l2 : Addr) (xs ys : Array Value) (k : Nat) : Prop where
  ti : IsPair h TI (.ref i1) (.ref i2)
  w1 : h.IsListIter i1 l1 k
  w2 : h.IsTupleIter i2 l2 k
  s1 : h.IsList l1 xs
  s2 : h.IsTuple l2 ys
/-- the zip's own object: fresh, or its last tuple still held -/
def ZipSt (h : Heap) (z TI TO i1 i2 d : Addr) : Prop := (IsZip h z TI TO .none ∧ ∃ a b, IsPair h TO a b) ∨ ∃ T f oT, IsZipHeld h z TI TO T f ∧ h.get? T = some oT ∧ T ≠ z ∧ T ≠ i1 ∧ T ≠ i2 ∧ T ≠ d
variable {z TI TO i1 i2 l1 l2 d : Addr} {xs ys : Array Value} {k : Nat} {x y : Value}
theorem zip_step {Q : Value → Shared → Prop} (D : ZipApart z TI TO i1 i2 l1 l2) (hd : d < s.heap.objs.size) (hz : ZipSt s.heap z TI TO i1 i2 d) (t : Two s.heap TI i1 i2 l1 l2 xs ys k) (hx : xs[k]? = some x) (hy : ys[k]? = some y)
    (hQ : ∀ h', ZipSt h' z TI TO i1 i2 d → Two h' TI i1 i2 l1 l2 xs ys (k + 1) → IsPair h' s.heap.objs.size x y → (∀ c o, c ∉ [z, TO, i1, i2] → s.heap.get? c = some o → h'.get? c = some o) → Q (.ref s.heap.objs.size) { s with heap := h' }) :
    wpAny (model P w) A (Builtin.«zip.__next__» ⟨[.ref z], []⟩) (fun fin s' => ∃ v, fin = .done (.ret v) ∧ Q v s') E s := by
  obtain ⟨hTI, h1, h2, hl1, hl2⟩ := t
  have nm : ∀ {c : Addr}, c ∉ [z, TO, i1, i2] → c ≠ z ∧ c ≠ TO ∧ c ≠ i1 ∧ c ≠ i2 := fun h => by simpa using h
  show wpAny _ _ (field (.ref z) 2 >>= _) _ _ _
  rcases hz with ⟨hz, a, b, hTO⟩ | ⟨T, f, oT, hz, hT, r1, r2, r3, r4⟩
  · refine wpAny_bind (wpAny_field hz rfl (x := .bool false) rfl ?_)
    show wpAny _ _ (field (.ref z) 3 >>= _) _ _ _
    refine wpAny_bind (wpAny_field hz rfl (x := .ref TI) rfl ?_)
    refine wpAny_bind (wpAny_seqItems hTI rfl ?_)
    show wpAny _ _ (Builtin.SmallTypes.ownedTupleIsFree (.ref z) >>= _) _ _ _
    refine wpAny_bind ?_
    unfold Builtin.SmallTypes.ownedTupleIsFree
    refine wpAny_bind (wpAny_field hz rfl (x := .none) rfl (wpAny_pure ?_))
    simp only [if_true]
    refine wpAny_bind (wpAny_rule ?_)
    refine wpAny_bind (wpAny_field hz rfl (x := .ref TO) rfl ?_)
    refine wpAny_bind (wpAny_setField_rec hz (by simp) fun h₁ hz₁ e1 => ?_)
    replace hz₁ : IsZip h₁ z TI TO .ellipsis := hz₁
    refine wpAny_bind ?_
    simp only [List.zipIdx_cons, List.zipIdx_nil, List.forIn_cons, List.forIn_nil]
    refine wpAny_bind (wpAny_bind (wpAny_onRaise ?_))
    show wpAny _ _ (Builtin.SmallTypes.nextOf (.ref i1) >>= _) _ _ _
    refine wpAny_bind (wpAny_nextOf_list_item (h1.extBut e1.extBut D.i1z) (hl1.extBut e1.extBut D.l1z) hx fun h₂ k1 e2 => wpAny_pure ?_)
    have o2 : IsPair h₂ TO a b := e2.extBut _ _ D.TOi1 (e1.extBut _ _ D.TOz hTO)
    refine wpAny_bind (wpAny_seqItems o2 rfl ?_)
    refine wpAny_bind (wpAny_updateSeq_pair o2 fun h₃ o3 e3 => ?_)
    replace o3 : IsPair h₃ TO x b := o3
    refine wpAny_bind (wpAny_letGo (wpAny_pure ?_))
    refine wpAny_bind (wpAny_bind (wpAny_onRaise ?_))
    show wpAny _ _ (Builtin.SmallTypes.nextOf (.ref i2) >>= _) _ _ _
    have up3 : ∀ c o, c ≠ z → c ≠ i1 → c ≠ TO → s.heap.get? c = some o → h₃.get? c = some o := fun c o c1 c2 c3 e => e3.extBut _ _ c3 (e2.extBut _ _ c2 (e1.extBut _ _ c1 e))
    refine wpAny_bind (RZ.nextOf_tuple_item (h2.at fun o e => up3 _ o D.i2z D.i12.symm D.TOi2.symm e) (hl2.at fun o e => up3 _ o D.l2z D.l2i1 D.l2TO e) hy fun h₄ k2 e4 => wpAny_pure ?_)
    have o4 : IsPair h₄ TO x b := e4.extBut _ _ D.TOi2 o3
    refine wpAny_bind (wpAny_seqItems o4 rfl ?_)
    refine wpAny_bind (wpAny_updateSeq_pair o4 fun h₅ o5 e5 => ?_)
    replace o5 : IsPair h₅ TO x y := o5
    refine wpAny_bind (wpAny_letGo (wpAny_pure (wpAny_pure ?_)))
    refine wpAny_bind (wpAny_seqItems o5 rfl ?_)
    refine wpAny_bind (wpAny_newTuple ?_)
    have sz5 : h₅.objs.size = s.heap.objs.size := by rw [e5.1, e4.1, e3.1, e2.1, e1.1]
    have z5 : IsZip h₅ z TI TO .ellipsis := e5.extBut _ _ D.TOz.symm (e4.extBut _ _ D.i2z.symm (e3.extBut _ _ D.TOz.symm (e2.extBut _ _ D.i1z.symm hz₁)))
    have lt : ∀ {c o}, h₅.get? c = some o → h₅.objs.size ≠ c := fun e => Nat.ne_of_gt (Heap.lt_size e)
    have up5 : ∀ c o, c ≠ z → c ≠ TO → c ≠ i1 → c ≠ i2 → s.heap.get? c = some o → h₅.get? c = some o := fun c o c1 c2 c3 c4 e => e5.extBut _ _ c2 (e4.extBut _ _ c4 (up3 c o c1 c3 c2 e))
    have k1' : h₅.IsListIter i1 l1 (k + 1) := ((k1.extBut e3.extBut D.TOi1.symm).extBut e4.extBut D.i12).extBut e5.extBut D.TOi1.symm
    have k2' : h₅.IsTupleIter i2 l2 (k + 1) := k2.at fun o e => e5.extBut _ _ D.TOi2.symm e
    have n1 : h₅.objs.size ≠ i1 := let ⟨_, e, _⟩ := k1'; lt e
    have n2 : h₅.objs.size ≠ i2 := let ⟨_, e, _⟩ := k2'; lt e
    show wpAny _ _ (Builtin.SmallTypes.ownedTupleHandOut (.ref z) (.ref h₅.objs.size) >>= _) _ _ _
    refine wpAny_bind ?_
    unfold Builtin.SmallTypes.ownedTupleHandOut
    have z6 : IsZip (h₅.push { cls := .type "tuple", data := .seq #[x, y] }) z TI TO .ellipsis := Heap.get?_push_of_some _ z5
    refine wpAny_bind (wpAny_setField_rec z6 (by simp) fun h₇ z7 e7 => ?_)
    replace z7 : IsZip h₇ z TI TO (rawInt h₅.objs.size) := z7
    refine wpAny_setField_rec z7 (by simp) fun h₈ z8 e8 => ?_
    replace z8 : IsZip h₈ z TI TO (rawInt h₅.objs.size) := z8
    have up : ∀ c o, c ≠ z → h₅.get? c = some o → h₈.get? c = some o := fun c o c1 e => e8.extBut _ _ c1 (e7.extBut _ _ c1 (Heap.get?_push_of_some _ e))
    have p8 : IsPair h₈ h₅.objs.size x y := e8.extBut _ _ (lt z5) (e7.extBut _ _ (lt z5) (Heap.get?_push_size _ rfl))
    have hd5 : h₅.objs.size ≠ d := by rw [sz5]; exact Nat.ne_of_gt hd
    refine wpAny_pure ⟨_, rfl, ?_⟩
    show Q (.ref h₅.objs.size) _
    have fin := hQ h₈ (.inr ⟨h₅.objs.size, false, _, z8, p8, lt z5, n1, n2, hd5⟩)
      ⟨up _ _ D.TIz (up5 _ _ D.TIz D.TITO D.TIi1 D.TIi2 hTI), k1'.at fun o e => up _ o D.i1z e, k2'.at fun o e => up _ o D.i2z e, hl1.at fun o e => up _ o D.l1z (up5 _ o D.l1z D.l1TO D.l1i1 D.l1i2 e), hl2.at fun o e => up _ o D.l2z (up5 _ o D.l2z D.l2TO D.l2i1 D.l2i2 e)⟩
      (by rw [← sz5]; exact p8) (fun c o hc e => let ⟨c1, c2, c3, c4⟩ := nm hc; up c o c1 (up5 c o c1 c2 c3 c4 e))
    rw [← sz5] at fin
    exact fin
  · refine wpAny_bind (wpAny_field hz rfl (x := .bool false) rfl ?_)
    show wpAny _ _ (field (.ref z) 3 >>= _) _ _ _
    refine wpAny_bind (wpAny_field hz rfl (x := .ref TI) rfl ?_)
    refine wpAny_bind (wpAny_seqItems hTI rfl ?_)
    show wpAny _ _ (Builtin.SmallTypes.ownedTupleIsFree (.ref z) >>= _) _ _ _
    refine wpAny_bind (wpAny_tupleHeld_zip hz hT fun h₁ z1 e1 => ?_)
    simp only [Bool.false_eq_true, if_false]
    refine wpAny_bind ?_
    rw [← Array.forIn_toList]
    simp only [List.forIn_cons, List.forIn_nil]
    refine wpAny_bind (wpAny_bind (wpAny_holding ?_))
    show wpAny _ _ (Builtin.SmallTypes.nextOf (.ref i1) >>= _) _ _ _
    refine wpAny_bind (wpAny_nextOf_list_item (s := { s with heap := h₁ }) (h1.extBut e1.extBut D.i1z) (hl1.extBut e1.extBut D.l1z) hx fun h₂ k1 e2 => wpAny_pure ?_)
    refine wpAny_pure ?_
    refine wpAny_bind (wpAny_bind (wpAny_holding ?_))
    show wpAny _ _ (Builtin.SmallTypes.nextOf (.ref i2) >>= _) _ _ _
    have up2 : ∀ c o, c ≠ z → c ≠ i1 → s.heap.get? c = some o → h₂.get? c = some o := fun c o c1 c2 e => e2.extBut _ _ c2 (e1.extBut _ _ c1 e)
    refine wpAny_bind (RZ.nextOf_tuple_item (s := { s with heap := h₂ }) (h2.at fun o e => up2 _ o D.i2z D.i12.symm e) (hl2.at fun o e => up2 _ o D.l2z D.l2i1 e) hy fun h₃ k2 e3 => wpAny_pure ?_)
    refine wpAny_pure (wpAny_pure ?_)
    show wpAny _ _ (newTuple [x, y] >>= _) _ _ _
    refine wpAny_bind (wpAny_newTuple ?_)
    have sz3 : h₃.objs.size = s.heap.objs.size := by rw [e3.1, e2.1, e1.1]
    have z3 : IsZipHeld h₃ z TI TO T true := e3.extBut _ _ D.i2z.symm (e2.extBut _ _ D.i1z.symm z1)
    have up3 : ∀ c o, c ≠ z → c ≠ i1 → c ≠ i2 → s.heap.get? c = some o → h₃.get? c = some o := fun c o c1 c2 c3 e => e3.extBut _ _ c3 (up2 c o c1 c2 e)
    have k1' : h₃.IsListIter i1 l1 (k + 1) := k1.extBut e3.extBut D.i12
    have k2' : h₃.IsTupleIter i2 l2 (k + 1) := k2
    refine wpAny_pure ⟨_, rfl, ?_⟩
    show Q (.ref h₃.objs.size) _
    have fin := hQ (h₃.push { cls := .type "tuple", data := .seq #[x, y] }) (.inr ⟨T, true, oT, Heap.get?_push_of_some _ z3, Heap.get?_push_of_some _ (up3 _ _ r1 r2 r3 hT), r1, r2, r3, r4⟩)
      ⟨Heap.get?_push_of_some _ (up3 _ _ D.TIz D.TIi1 D.TIi2 hTI), k1'.at fun o e => Heap.get?_push_of_some _ e, k2'.at fun o e => Heap.get?_push_of_some _ e, hl1.at fun o e => Heap.get?_push_of_some _ (up3 _ o D.l1z D.l1i1 D.l1i2 e), hl2.at fun o e => Heap.get?_push_of_some _ (up3 _ o D.l2z D.l2i1 D.l2i2 e)⟩
      (by rw [← sz3]; exact Heap.get?_push_size _ rfl) (fun c o hc e => let ⟨c1, c2, c3, c4⟩ := nm hc; Heap.get?_push_of_some _ (up3 c o c1 c3 c4 e))
    rw [← sz3] at fin
    exact fin
/-- the list is at its end -/
theorem zip_stop {Q : PySem.Fin → Shared → Prop} (hh : A.handled = none) (D : ZipApart z TI TO i1 i2 l1 l2) (hz : ZipSt s.heap z TI TO i1 i2 d) (t : Two s.heap TI i1 i2 l1 l2 xs ys k) (hx : xs[k]? = none)
    (hE : ∀ h' e, (∀ c o, c ∉ [z, TO, i1, i2] → s.heap.get? c = some o → h'.get? c = some o) → (∃ o, h'.get? e = some o ∧ o.cls = .type "StopIteration") → E (.ref e) { s with heap := h' }) :
    wpAny (model P w) A (Builtin.«zip.__next__» ⟨[.ref z], []⟩) Q E s := by
  obtain ⟨hTI, h1, h2, hl1, hl2⟩ := t
  have nm : ∀ {c : Addr}, c ∉ [z, TO, i1, i2] → c ≠ z ∧ c ≠ TO ∧ c ≠ i1 ∧ c ≠ i2 := fun h => by simpa using h
  show wpAny _ _ (field (.ref z) 2 >>= _) _ _ _
  rcases hz with ⟨hz, a, b, hTO⟩ | ⟨T, f, oT, hz, hT, r1, r2, r3, r4⟩
  · refine wpAny_bind (wpAny_field hz rfl (x := .bool false) rfl ?_)
    show wpAny _ _ (field (.ref z) 3 >>= _) _ _ _
    refine wpAny_bind (wpAny_field hz rfl (x := .ref TI) rfl ?_)
    refine wpAny_bind (wpAny_seqItems hTI rfl ?_)
    show wpAny _ _ (Builtin.SmallTypes.ownedTupleIsFree (.ref z) >>= _) _ _ _
    refine wpAny_bind ?_
    unfold Builtin.SmallTypes.ownedTupleIsFree
    refine wpAny_bind (wpAny_field hz rfl (x := .none) rfl (wpAny_pure ?_))
    simp only [if_true]
    refine wpAny_bind (wpAny_rule ?_)
    refine wpAny_bind (wpAny_field hz rfl (x := .ref TO) rfl ?_)
    refine wpAny_bind (wpAny_setField_rec hz (by simp) fun h₁ hz₁ e1 => ?_)
    replace hz₁ : IsZip h₁ z TI TO .ellipsis := hz₁
    refine wpAny_bind ?_
    simp only [List.zipIdx_cons, List.zipIdx_nil, List.forIn_cons, List.forIn_nil]
    refine wpAny_bind (wpAny_bind (wpAny_onRaise ?_))
    show wpAny _ _ (Builtin.SmallTypes.nextOf (.ref i1) >>= _) _ _ _
    refine wpAny_bind (wpAny_nextOf_list_end hh (h1.extBut e1.extBut D.i1z) (hl1.extBut e1.extBut D.l1z) hx fun h₂ e e2 he => ?_)
    obtain ⟨oe, hoe, hce⟩ := he
    have z2 : IsZip h₂ z TI TO .ellipsis := e2 _ _ D.i1z.symm hz₁
    have hez : e ≠ z := fun q => by subst q; rw [z2] at hoe; cases hoe; simp at hce
    exact wpAny_setField_rec z2 (by simp) fun h₃ _ e3 => hE h₃ e (fun c o hc q => let ⟨c1, c2, c3, c4⟩ := nm hc; e3.extBut _ _ c1 (e2 _ _ c3 (e1.extBut _ _ c1 q))) ⟨oe, e3.extBut _ _ hez hoe, hce⟩
  · refine wpAny_bind (wpAny_field hz rfl (x := .bool false) rfl ?_)
    show wpAny _ _ (field (.ref z) 3 >>= _) _ _ _
    refine wpAny_bind (wpAny_field hz rfl (x := .ref TI) rfl ?_)
    refine wpAny_bind (wpAny_seqItems hTI rfl ?_)
    show wpAny _ _ (Builtin.SmallTypes.ownedTupleIsFree (.ref z) >>= _) _ _ _
    refine wpAny_bind (wpAny_tupleHeld_zip hz hT fun h₁ z1 e1 => ?_)
    simp only [Bool.false_eq_true, if_false]
    refine wpAny_bind ?_
    rw [← Array.forIn_toList]
    simp only [List.forIn_cons, List.forIn_nil]
    refine wpAny_bind (wpAny_bind (wpAny_holding ?_))
    show wpAny _ _ (Builtin.SmallTypes.nextOf (.ref i1) >>= _) _ _ _
    refine wpAny_bind (wpAny_nextOf_list_end (s := { s with heap := h₁ }) hh (h1.extBut e1.extBut D.i1z) (hl1.extBut e1.extBut D.l1z) hx fun h₂ e e2 he => ?_)
    exact hE h₂ e (fun c o hc q => let ⟨c1, c2, c3, c4⟩ := nm hc; e2 _ _ c3 (e1.extBut _ _ c1 q)) he
theorem ZipSt.is {h : Heap} (hz : ZipSt h z TI TO i1 i2 d) : ∃ o, h.get? z = some o ∧ o.cls = .type "zip" := by
  rcases hz with ⟨hz, _⟩ | ⟨T, f, oT, hz, _⟩
  · exact ⟨_, hz, rfl⟩
  · exact ⟨_, hz, rfl⟩
/-- the argument of dict() -/
theorem pairs_zip (z TI TO i1 i2 l1 l2 : Addr) (D : ZipApart z TI TO i1 i2 l1 l2) (xs ys : Array Value) (hs : xs.size = ys.size) :
    PairArg P w "zip" z [z, TI, TO, i1, i2, l1, l2] [z, TO, i1, i2] xs.size (fun i k v => xs[i]? = some k ∧ ys[i]? = some v)
      (fun h => IsZip h z TI TO .none ∧ (∃ a b, IsPair h TO a b) ∧ Two h TI i1 i2 l1 l2 xs ys 0) where
  type := fun s ok => ⟨_, ok.1, rfl⟩
  notDict := by decide
  keep := fun h h' ⟨hz, ⟨a, b, hTO⟩, t⟩ hk => ⟨hk _ _ hz, ⟨a, b, hk _ _ hTO⟩, hk _ _ t.ti, t.w1.at fun o e => hk _ o e, t.w2.at fun o e => hk _ o e, t.s1.at fun o e => hk _ o e, t.s2.at fun o e => hk _ o e⟩
  there := fun h ⟨hz, ⟨a, c, hTO⟩, ⟨hTI, ⟨_, h1, _⟩, ⟨_, h2, _⟩, ⟨_, h3, _⟩, ⟨_, h4, _⟩⟩⟩ b hb => by
    simp only [List.mem_cons, List.not_mem_nil, or_false] at hb
    rcases hb with rfl | rfl | rfl | rfl | rfl | rfl | rfl
    · exact ⟨_, hz⟩
    · exact ⟨_, hTI⟩
    · exact ⟨_, hTO⟩
    · exact ⟨_, h1⟩
    · exact ⟨_, h2⟩
    · exact ⟨_, h3⟩
    · exact ⟨_, h4⟩
  sub := fun b hb => by simp at hb ⊢; rcases hb with rfl | rfl | rfl | rfl <;> simp
  noKeys := fun A s Q E hA ok h => getAttrOr_miss_zip ok.1 rfl rfl rfl zip_no_keys (by decide +kernel) hA h
  iter := fun A s d Q E hA ok hd hdf h => by
    obtain ⟨hz, hTO, t⟩ := ok
    simp only [List.mem_cons, List.not_mem_nil, or_false, not_or] at hdf
    obtain ⟨dz, dTI, dTO, di1, di2, dl1, dl2⟩ := hdf
    have step : ∀ {s₁ : Shared}, ZipSt s₁.heap z TI TO i1 i2 d → s₁.TypeIs (.ref z) "zip" := fun hz => by
      obtain ⟨o, e, c⟩ := hz.is
      exact ⟨o, e, c⟩
    refine wpAny_pyIter_zip hz (h z [z, TO, i1, i2] (fun i h => Two h TI i1 i2 l1 l2 xs ys i ∧ ZipSt h z TI TO i1 i2 d) s.heap s.toks ?_ ⟨t, .inl ⟨hz, hTO⟩⟩ (fun _ _ e => e) fun b hb => .inl hb)
    exact {
      off := fun hm => by
        simp only [List.mem_cons, List.not_mem_nil, or_false] at hm
        rcases hm with e | e | e | e
        · exact dz e
        · exact dTO e
        · exact di1 e
        · exact di2 e
      frame := fun i h₁ h₂ ⟨t, hz⟩ hk => by
        refine ⟨⟨hk _ _ (Ne.symm dTI) t.ti, t.w1.at fun o e => hk _ o (Ne.symm di1) e, t.w2.at fun o e => hk _ o (Ne.symm di2) e, t.s1.at fun o e => hk _ o (Ne.symm dl1) e, t.s2.at fun o e => hk _ o (Ne.symm dl2) e⟩, ?_⟩
        rcases hz with ⟨hz, a, b, hTO⟩ | ⟨T, f, oT, hz, hT, r1, r2, r3, r4⟩
        · exact .inl ⟨hk _ _ (Ne.symm dz) hz, a, b, hk _ _ (Ne.symm dTO) hTO⟩
        · exact .inr ⟨T, f, oT, hk _ _ (Ne.symm dz) hz, hk _ _ r4 hT, r1, r2, r3, r4⟩
      item := fun i s₁ Q₁ E₁ hi ⟨t, hz⟩ hds hQ => by
        have ex := Array.getElem?_eq_getElem hi
        have ey := Array.getElem?_eq_getElem (show i < ys.size by omega)
        have ty := step hz
        unfold pyNext
        exact wpAny_bind (wpAny_attempt (wpAny_callSpecial?_slot (name := Str.ofString "__next__") ty F.slot_zip_next (wpAny_call_entry F.slot_zip_next ty F.entry_zip_next
          (zip_step D hds hz t ex ey fun h' a1 a2 a3 a4 => wpAny_pure (hQ s₁.heap.objs.size _ _ h' s₁.toks ⟨ex, ey⟩ (.inl ⟨_, a3, rfl, _, rfl⟩) ⟨a2, a1⟩ a4)) (F.args_zip_next_1 _))))
      done := fun s₁ Q₁ E₁ ⟨t, hz⟩ hQ => by
        have ty := step hz
        unfold pyNext
        refine wpAny_bind (wpAny_attempt (wpAny_callSpecial?_slot (name := Str.ofString "__next__") ty F.slot_zip_next (wpAny_call_entry F.slot_zip_next ty F.entry_zip_next
          (zip_stop hA D hz t (Array.getElem?_eq_none (Nat.le_refl _)) fun h' e hk he => ?_) (F.args_zip_next_1 _))))
        obtain ⟨o, ho, hc⟩ := he
        exact wpAny_bind (wpAny_isInstance (T := "StopIteration") (b := true) ⟨o, ho, hc⟩ isSubtype_stop (wpAny_pure (hQ _ s₁.toks hk))) }
end
end Z

/-! Z19: dict(zip(xs, ys)); for a, b in zip(xs, ys); a, b, c = x, y, z; a cell lent to a def that only reads. -/
namespace Z
open PySem PySem.Spec PyProof.Rows L2
section
variable {P : Program} {w : World} {A : Around} {E : Value → Shared → Prop} {s : Shared}
abbrev lt1 (h : Heap) (a : Addr) : Heap := h.push { cls := .type "list_iterator", data := .fields #[.ref a, .int 0 0] }
abbrev lt2 (h : Heap) (a b : Addr) : Heap := (lt1 h a).push { cls := .type "tuple_iterator", data := .fields #[.ref b, .int 0 0] }
abbrev lt3 (h : Heap) (a b : Addr) : Heap := (lt2 h a b).push { cls := .type "tuple", data := .seq #[.ref h.objs.size, .ref (lt1 h a).objs.size] }
abbrev lt4 (h : Heap) (a b : Addr) : Heap := (lt3 h a b).push { cls := .type "tuple", data := .seq #[.none, .none] }
abbrev lt5 (h : Heap) (a b : Addr) : Heap := (lt4 h a b).push { cls := .type "zip", data := .fields #[.none, .bool false, .bool false, .ref (lt2 h a b).objs.size, .ref (lt3 h a b).objs.size] }
theorem new_zip (a b : Addr) (xs ys : Array Value) : Meets (Builtin.«zip.__new__» ⟨[.type "zip", .ref a, .ref b], []⟩) (fun _ R s => s.heap.IsList a xs ∧ s.heap.IsTuple b ys ∧ R (.ok (.ret (.ref (lt4 s.heap a b).objs.size))) { s with heap := lt5 s.heap a b }) :=
  .of_wp fun prog w A R s h => by
    obtain ⟨hp, g, d, tk, os⟩ := s
    obtain ⟨ha, hb, h⟩ := h
    have hsub := sub_zip
    have q1 : Heap.IsList (Shared.heap ⟨hp, g, d, tk, os⟩) a xs := ha
    have q2 : Heap.IsTuple (Shared.heap ⟨lt1 hp a, g, d, tk, os⟩) b ys := Heap.IsTuple.push hb _
    wp_walk using wpAny_pyIter_list q1, wpAny_pyIter_tuple q2
    exact ⟨_, rfl, h⟩
theorem call_zipLT {a b : Addr} {xs ys : Array Value} {Q : Value → Shared → Prop} (ha : s.heap.IsList a xs) (hb : s.heap.IsTuple b ys)
    (h : ∀ h' p, p = s.heap.objs.size → IsZip h' (p + 4) (p + 2) (p + 3) .none → (∃ x y, IsPair h' (p + 3) x y) → Two h' (p + 2) p (p + 1) a b xs ys 0 → h'.objs.size = p + 5 → (∀ c o, s.heap.get? c = some o → h'.get? c = some o) → Q (.ref (p + 4)) { s with heap := h' }) :
    wpAny (model P w) A (call (.type "zip") [.ref a, .ref b]) Q E s := by
  refine callType_new F.called_zip (by decide) (F.typeCall_zip_2 _ _) (F.newCall_zip_2 _ _) (fun obj => F.args_object_init_3 obj _ _) F.entry_zip_new (new_zip a b xs ys) ⟨ha, hb, ?_⟩
  have z1 : (lt1 s.heap a).objs.size = s.heap.objs.size + 1 := Heap.size_push ..
  have z2 : (lt2 s.heap a b).objs.size = s.heap.objs.size + 2 := by rw [Heap.size_push, z1]
  have z3 : (lt3 s.heap a b).objs.size = s.heap.objs.size + 3 := by rw [Heap.size_push, z2]
  have z4 : (lt4 s.heap a b).objs.size = s.heap.objs.size + 4 := by rw [Heap.size_push, z3]
  have z5 : (lt5 s.heap a b).objs.size = s.heap.objs.size + 5 := by rw [Heap.size_push, z4]
  have up5 : ∀ c o, (lt4 s.heap a b).get? c = some o → (lt5 s.heap a b).get? c = some o := fun c o e => Heap.get?_push_of_some _ e
  have up4 : ∀ c o, (lt3 s.heap a b).get? c = some o → (lt5 s.heap a b).get? c = some o := fun c o e => up5 c o (Heap.get?_push_of_some _ e)
  have up3 : ∀ c o, (lt2 s.heap a b).get? c = some o → (lt5 s.heap a b).get? c = some o := fun c o e => up4 c o (Heap.get?_push_of_some _ e)
  have up2 : ∀ c o, (lt1 s.heap a).get? c = some o → (lt5 s.heap a b).get? c = some o := fun c o e => up3 c o (Heap.get?_push_of_some _ e)
  have up1 : ∀ c o, s.heap.get? c = some o → (lt5 s.heap a b).get? c = some o := fun c o e => up2 c o (Heap.get?_push_of_some _ e)
  have g5 : (lt5 s.heap a b).get? (lt4 s.heap a b).objs.size = some _ := Heap.get?_push_size _ rfl
  have g4 : (lt5 s.heap a b).get? (lt3 s.heap a b).objs.size = some _ := up5 _ _ (Heap.get?_push_size _ rfl)
  have g3 : (lt5 s.heap a b).get? (lt2 s.heap a b).objs.size = some _ := up4 _ _ (Heap.get?_push_size _ rfl)
  have g2 : (lt5 s.heap a b).get? (lt1 s.heap a).objs.size = some _ := up3 _ _ (Heap.get?_push_size _ rfl)
  have g1 : (lt5 s.heap a b).get? s.heap.objs.size = some _ := up2 _ _ (Heap.get?_push_size _ rfl)
  show _ ∧ _
  rw [z2, z3, z4] at g5
  rw [z1, z2] at g3
  rw [z3] at g4
  rw [z1] at g2
  rw [z4]
  exact ⟨⟨_, g5, rfl⟩, h _ _ rfl g5 ⟨_, _, g4⟩ ⟨g3, ⟨_, g1, rfl, rfl⟩, ⟨_, g2, rfl, rfl⟩, ha.at fun o e => up1 _ o e, hb.at fun o e => up1 _ o e⟩ z5 up1⟩
end
section
variable {X : Cx} {tg e f a b c : Expr} {Γ : GS} {M : MS} {D : ZD} {pos pos2 p p2 : Pos} {Φ : W → MS → Prop}
abbrev keysS (ks : List Str) : List Key := ks.map Sum.inr
theorem merge_new {kvs : List (Key × V)} : ∀ {acc : List (Key × V)}, ((acc ++ kvs).map (·.1)).Nodup → mergeK acc kvs = acc ++ kvs := by
  induction kvs with
  | nil => intro acc _; simp [mergeK]
  | cons q r ih =>
    intro acc h
    have hq : (acc.any fun kv => decide (kv.1 = q.1)) = false := by
      rw [List.any_eq_false]
      intro kv hkv z
      have e : kv.1 = q.1 := of_decide_eq_true z
      rw [List.map_append, List.nodup_append] at h
      exact h.2.2 kv.1 (List.mem_map.mpr ⟨kv, hkv, rfl⟩) q.1 (by simp) e
    show mergeK (putK acc q.1 q.2) r = _
    have e : putK acc q.1 q.2 = acc ++ [q] := by
      unfold putK
      rw [hq, if_neg Bool.false_ne_true]
    rw [e, ih (by rw [List.append_assoc]; exact h), List.append_assoc]
    rfl
theorem pairs_rel {ks : List Str} : ∀ {xs : List V} {us vs : List Value}, Vals (ks.map V.str) us → Vals xs vs → ks.length = xs.length → KV (List.zip (keysS ks) xs) (List.zip (keysS ks) vs) := by
  induction ks with
  | nil => intro xs us vs _ _ _; exact .nil
  | cons k r ih =>
    intro xs us vs h1 h2 hl
    cases xs with
    | nil => simp at hl
    | cons x xs =>
      cases h1 with
      | cons a b =>
        cases h2 with
        | cons c d => exact .cons ⟨rfl, c⟩ (ih b d (by simpa using hl))
/-- dict(zip(xs, ys)), xs a list of texts, each once; ys a tuple as long -/
def tDz (ta : TA) : TE := fun σ H Q => ta σ H fun vs H1 => ∃ (a b : Addr) (ks : List Str) (xs : List V), vs = [.ref a, .ref b] ∧ H1 a = some (.lst (ks.map V.str)) ∧ H1 b = some (.tup xs) ∧ ks.length = xs.length ∧ ks.Nodup ∧
  ∀ q, H1 q = none → Q (.ref q) (upd H1 q (.dK (List.zip (keysS ks) xs)))
theorem pe_dz {ta : TA} (hc : X.calm = true) (hg : Gl X "dict") (hm : X.mg "dict" = none) (hg2 : Gl X "zip") (hm2 : X.mg "zip" = none) (ha : PA X [e, f] ta)
    (hs : starEach [e, f] X.env = (false, eval e X.env) :: starEach [f] X.env) (hpl : (backTo pos2 (starEach [f] X.env)).any (·.1) = false)
    (na : starEach [.Call (.Name "zip" p2) [e, f] [] pos2] X.env = (false, eval (.Call (.Name "zip" p2) [e, f] [] pos2) X.env) :: starEach [] X.env) :
    PE X (.Call (.Name "dict" p) [.Call (.Name "zip" p2) [e, f] [] pos2] [] pos) (tDz ta) := by
  refine ⟨fun pins s σ H Q I h => ?_⟩
  refine Call_ (ld_blt I hg hm bt_dict ?_)
  refine PyProof.Rows.callWith_type1 (PyProof.Rows.args_cons ?_ na) na rfl
  refine Call_ (ld_blt I hg2 hm2 bt_zip ?_)
  refine PyProof.Rows.callWith_type1 (thn (ha.run pos2 pins s σ H _ I h) fun us s1 ⟨vs, H1, I1, r1, q1⟩ => ?_) hs hpl
  obtain ⟨a, b, ks, xs, rfl, h1, h2, hl, nd, q⟩ := q1
  cases r1 with
  | cons r rr =>
    cases rr with
    | cons r' rr =>
      cases rr
      cases r
      cases r'
      obtain ⟨its, rv, pl, hz⟩ := I1.list (.inl (.inl h1))
      obtain ⟨its2, rv2, pl2, hz2⟩ := I1.tuple (.inl (.inl h2))
      have l1 : its.length = ks.length := by rw [← rv.length, List.length_map]
      have l2 : its2.length = ks.length := by rw [← rv2.length, hl]
      obtain ⟨o1, ho1, _⟩ := id pl2
      have lta := pl.lt
      have ltb := Heap.lt_size ho1
      refine call_zipLT pl.isList (show s1.heap.IsTuple b its2.toArray from pl2) fun h' q0 hq0 hzip hTO t hsz hk => ?_
      subst hq0
      refine PyProof.Rows.args_nil ?_
      have D := PySem.W.ktu_apart s1.heap.objs.size a b lta ltb
      have rel : KV (List.zip (keysS ks) xs) (List.zip (keysS ks) its2) := pairs_rel rv rv2 hl
      have keysN : ((List.zip (keysS ks) xs : List (Key × V)).map (·.1)).Nodup := by
        have e : (List.zip (keysS ks) xs : List (Key × V)).map (·.1) = keysS ks := List.map_fst_zip (by rw [List.length_map, hl]; exact Nat.le_refl _)
        rw [e]
        exact List.pairwise_map.mpr (List.Pairwise.imp (fun h z => h (Sum.inr.inj z)) nd)
      have szs : its.toArray.size = its2.toArray.size := by rw [List.size_toArray, List.size_toArray, l1, l2]
      have hP := pairs_zip (P := X.prog) (w := X.w) (s1.heap.objs.size + 4) (s1.heap.objs.size + 2) (s1.heap.objs.size + 3) s1.heap.objs.size (s1.heap.objs.size + 1) a b D its.toArray its2.toArray szs
      have sml : its.toArray.size ≤ sizeLine := by rw [List.size_toArray, l1, ← List.length_map (f := V.str)]; exact hz
      refine PySem.call_dict_pairs (knd := mixKind X.prog X.w) (kvs := List.zip (keysS ks) its2) (s := { s1 with heap := h' }) hP (I1.ok.hd hc) ⟨hzip, hTO, t⟩ ⟨?_, fun i key v hr => ?_⟩ sml fun h'' tk hd' k => ?_
      · rw [List.length_zip, List.length_map, l2, List.size_toArray, l1, Nat.min_self]
      · obtain ⟨e1, e2⟩ := hr
        rw [List.getElem?_toArray] at e1 e2
        have hi : i < ks.length := by rw [← l1]; exact (List.getElem?_eq_some_iff.mp e1).1
        have ek : ks[i]? = some ks[i] := List.getElem?_eq_getElem hi
        obtain ⟨u, e3, ru⟩ := Vals.get (i := i) (x := .str ks[i]) rv (by rw [List.getElem?_map, ek]; rfl)
        rw [e1] at e3
        cases e3
        obtain ⟨tk, rfl⟩ := ru
        refine ⟨.inr ks[i], ?_, mixKind_str X.prog X.w _ _⟩
        rw [List.getElem?_zip_eq_some]
        exact ⟨by rw [List.getElem?_map, ek]; rfl, e2⟩
      · have kp : ∀ c o, s1.heap.get? c = some o → h''.get? c = some o := fun c o e => k c o (fun m => by
          have lc : c < s1.heap.objs.size := Heap.lt_size e
          have ge : s1.heap.objs.size ≤ c := by
            simp only [List.mem_cons, List.not_mem_nil, or_false] at m
            rcases m with z | z | z | z
            · rw [z]; exact Nat.le_add_right _ _
            · rw [z]; exact Nat.le_add_right _ _
            · rw [z]; exact Nat.le_refl _
            · rw [z]; exact Nat.le_add_right _ _
          exact absurd lc (Nat.not_lt.mpr ge)) (hk c o e)
        have ge : s1.heap.objs.size ≤ h'.objs.size := by rw [hsz]; exact Nat.le_add_right _ _
        have hm : (h'.objs.size == sysModules) = false := beq_eq_false_iff_ne.mpr (Nat.ne_of_gt (Nat.lt_of_lt_of_le I1.big ge))
        have lenz : (List.zip (keysS ks) xs).length = ks.length := by rw [List.length_zip, List.length_map, hl, Nat.min_self]
        have e : mergeK [] (List.zip (keysS ks) xs) = List.zip (keysS ks) xs := by
          have := merge_new (kvs := List.zip (keysS ks) xs) (acc := []) (by simpa using keysN)
          simpa using this
        have ok : ObjOk X.prog X.w (upd H1 h'.objs.size (.dK (List.zip (keysS ks) xs))) h'' h'.objs.size (.dK (List.zip (keysS ks) xs)) := by
          refine ⟨?_, hm, merged [] (List.zip (keysS ks) its2), ?_, hd'⟩
          · rw [lenz, ← List.length_map (f := V.str)]; exact hz
          · have := KV.merge rel .nil
            rw [e] at this
            exact this
        exact ⟨.ref h'.objs.size, _, I1.laid (t' := tk) kp ge ok, rfl, q _ (I1.hok.fresh ge)⟩
end
end Z

/-! Z20: the rules of Z19 at the level of data. -/
namespace Z
open PySem PySem.Spec PyProof.Rows L2
section
variable {X : Cx} {tg e f a b c : Expr} {es : List Expr} {Γ : GS} {M : MS} {D : ZD} {pos pos2 p p2 : Pos} {Φ : W → MS → Prop} {Ψ : List PyData → MS → Prop}
theorem za_two {Θ : W → W → MS → Prop} (h : ZE X e Γ M fun y M1 => ZE X f Γ M1 fun z M2 => Θ y z M2) (h1 : starEach [e, f] X.env = (false, eval e X.env) :: starEach [f] X.env) (h2 : starEach [f] X.env = (false, eval f X.env) :: starEach [] X.env) :
    ZA X [e, f] Γ M fun ws M2 => ∃ y z, ws = [y, z] ∧ Θ y z M2 := za_cons (h.mono fun y M1 q => za_cons (q.mono fun z M2 q2 => za_nil ⟨y, z, rfl, q2⟩) h2) h1
theorem zip_rks {F : Hp} {ι : List Addr} : ∀ {ks : List Key} {xs : List V} {ds : List PyData}, AtAll F xs ds → RKs F ι (List.zip ks xs) (List.zip ks (ds.map .d))
  | [], _, _, _ => by simp; exact .nil
  | k :: ks, _, _, .nil => by simp; exact .nil
  | k :: ks, _, _, .cons h t => .cons ⟨rfl, h⟩ (zip_rks t)
theorem ze_dictZip (hc : X.calm = true) (hm : X.mg "dict" = none) (hm2 : X.mg "zip" = none)
    (h : ZE X e Γ M fun y M1 => ZE X f Γ M1 fun z M2 => ∃ (ks : List Str) (ds : List PyData), y = .d (.list (ks.map .str)) ∧ z = .d (.tuple ds) ∧ ks.length = ds.length ∧ ks.Nodup ∧ Φ (.m M2.length) (M2 ++ [.dic (List.zip (keysS ks) (ds.map .d))]))
    (hg : Gl X "dict" := by rfl) (hg2 : Gl X "zip" := by rfl) (hs : starEach [e, f] X.env = (false, eval e X.env) :: starEach [f] X.env := by rfl) (hs2 : starEach [f] X.env = (false, eval f X.env) :: starEach [] X.env := by rfl)
    (hpl : (backTo pos2 (starEach [f] X.env)).any (·.1) = false := by rfl)
    (na : starEach [.Call (.Name "zip" p2) [e, f] [] pos2] X.env = (false, eval (.Call (.Name "zip" p2) [e, f] [] pos2) X.env) :: starEach [] X.env := by rfl) :
    ZE X (.Call (.Name "dict" p) [.Call (.Name "zip" p2) [e, f] [] pos2] [] pos) Γ M Φ := fun F ι σ H R S => by
  refine w_e (pe_dz hc hg hm hg2 hm2 pa_w hs hpl na) ((za_two h hs hs2 F ι σ H R S).mono ?_)
  rintro vs H1 ⟨F1, ι1, M1, ws, E1, R1, rv, y, z, rfl, ks, ds, rfl, rfl, hl, nd, φ⟩
  obtain ⟨v, u, rfl, rv, ru⟩ := two_ rv
  obtain ⟨a, vs, rfl, fa, ra⟩ := At.lst_ rv
  obtain ⟨b, us, rfl, fb, rb⟩ := At.tup_ ru
  rw [ra.strs] at fa
  refine ⟨a, b, ks, us, rfl, R1.sub _ _ fa, R1.sub _ _ fb, by rw [rb.len]; exact hl, nd, fun q n => ?_⟩
  obtain ⟨E2, R2⟩ := R1.new (o := .dK (List.zip (keysS ks) us)) (mo := .dic (List.zip (keysS ks) (ds.map .d))) n ⟨_, rfl, zip_rks rb⟩
  exact ⟨F1, _, _, .m M1.length, E1.trans E2, R2, RW.m (by rw [← R1.len]; simp), φ⟩
theorem grow_lay {F H : Hp} {q : Addr} {o : HO} (s : Same F H) (n : H q = none) : Grow F H (upd F q o) (upd H q o) := by
  have nF : F q = none := s.free n
  refine ⟨fun b x e => by rw [upd_ne (ne_of_none e nF)]; exact e, fun b x e => by rw [upd_ne (ne_of_none e n)]; exact e, fun b x e => ?_, fun b x e k => ?_⟩
  · by_cases hb : b = q
    · subst hb; rw [upd_same] at e ⊢; exact e
    · rw [upd_ne hb] at e ⊢; exact s b x e
  · by_cases hb : b = q
    · subst hb; exact n
    · rw [upd_ne hb, k] at e; cases e
def pairsD (xs ys : List PyData) : List PyData := List.zipWith (fun a b => .tuple [a, b]) xs ys
theorem pairsD_get {xs ys : List PyData} {i : Nat} {d : PyData} (h : (pairsD xs ys)[i]? = some d) : ∃ x y, xs[i]? = some x ∧ ys[i]? = some y ∧ d = .tuple [x, y] := by
  unfold pairsD at h
  rw [List.getElem?_zipWith] at h
  cases h1 : xs[i]? with
  | none => rw [h1] at h; simp at h
  | some x =>
    cases h2 : ys[i]? with
    | none => rw [h1, h2] at h; simp at h
    | some y =>
      rw [h1, h2] at h
      exact ⟨x, y, rfl, rfl, (Option.some.inj h).symm⟩
theorem yld_zip {K : PySem.W.Frag} {F : Hp} {a b : Addr} {vs us : List V} {xs ys : List PyData} (fa : F a = some (.lst vs)) (ra : AtAll F vs xs) (fb : F b = some (.lst us)) (rb : AtAll F us ys) : Yld F (Itz K a b) (pairsD xs ys) := fun F' H s1 s2 i => by
  have ha : SqL K H a vs := .of (s2 _ _ (s1 _ _ fa))
  have hb : SqL K H b us := .of (s2 _ _ (s1 _ _ fb))
  refine ⟨fun d e => ?_, fun h => ⟨vs, us, ha, hb, ?_⟩⟩
  · obtain ⟨x, y, e1, e2, rfl⟩ := pairsD_get e
    obtain ⟨v, e3, rv⟩ := ra.get e1
    obtain ⟨u, e4, ru⟩ := rb.get e2
    refine ⟨⟨vs, us, v, u, ha, hb, e3, e4⟩, ?_⟩
    rintro z H' ⟨T, x', y', rfl, n, rfl, f1, f2⟩
    obtain rfl : v = x' := Option.some.inj (e3.symm.trans (f1 _ ha))
    obtain rfl : u = y' := Option.some.inj (e4.symm.trans (f2 _ hb))
    have g := grow_lay (o := .tup [v, u]) s2 n
    exact ⟨_, g, .tup upd_same (.cons (rv.up (s1.trans g.same)) (.cons (ru.up (s1.trans g.same)) .nil))⟩
  · unfold pairsD at h
    rw [List.length_zipWith] at h
    rw [ra.len, rb.len]
    omega
theorem yld_zipT {K : PySem.W.Frag} {F : Hp} {a b : Addr} {vs us : List V} {xs ys : List PyData} (fa : F a = some (.tup vs)) (ra : AtAll F vs xs) (fb : F b = some (.tup us)) (rb : AtAll F us ys) : Yld F (RZ.ItzT K a b) (pairsD xs ys) := fun F' H s1 s2 i => by
  have ha : SqT K H a vs := .of (s2 _ _ (s1 _ _ fa))
  have hb : SqT K H b us := .of (s2 _ _ (s1 _ _ fb))
  refine ⟨fun d e => ?_, fun h => ⟨vs, us, ha, hb, ?_⟩⟩
  · obtain ⟨x, y, e1, e2, rfl⟩ := pairsD_get e
    obtain ⟨v, e3, rv⟩ := ra.get e1
    obtain ⟨u, e4, ru⟩ := rb.get e2
    refine ⟨⟨vs, us, v, u, ha, hb, e3, e4⟩, ?_⟩
    rintro z H' ⟨T, x', y', rfl, n, rfl, f1, f2⟩
    obtain rfl : v = x' := Option.some.inj (e3.symm.trans (f1 _ ha))
    obtain rfl : u = y' := Option.some.inj (e4.symm.trans (f2 _ hb))
    have g := grow_lay (o := .tup [v, u]) s2 n
    exact ⟨_, g, .tup upd_same (.cons (rv.up (s1.trans g.same)) (.cons (ru.up (s1.trans g.same)) .nil))⟩
  · unfold pairsD at h
    rw [List.length_zipWith] at h
    rw [ra.len, rb.len]
    omega
/-- for a, b in zip(xs, ys) -/
theorem zi_zip {elts : List Expr} {kk : Nat} {tpos : Pos} (hm : X.mg "zip" = none)
    (h : ZE X e Γ M fun y M1 => ZE X f Γ M1 fun z M2 => ∃ xs ys, ((y = .d (.list xs) ∧ z = .d (.list ys)) ∨ (y = .d (.tuple xs) ∧ z = .d (.tuple ys))) ∧ Ψ (pairsD xs ys) M2) (hg : Gl X "zip" := by rfl)
    (hs : starEach [e, f] X.env = (false, eval e X.env) :: starEach [f] X.env := by rfl) (hs2 : starEach [f] X.env = (false, eval f X.env) :: starEach [] X.env := by rfl)
    (hpl : (backTo pos (starEach [f] X.env)).any (·.1) = false := by rfl) : ZI X (.Tuple elts kk tpos) (.Call (.Name "zip" p) [e, f] [] pos) Γ M Ψ := fun F ι σ H R S => by
  refine w_i (RZ.pi_zipA hg hm pa_w hs hpl) ((za_two h hs hs2 F ι σ H R S).mono ?_)
  rintro vs H1 ⟨F1, ι1, M1, ws, E1, R1, rv, y, z, rfl, xs, ys, hyz, ψ⟩
  obtain ⟨v, u, rfl, rv1, ru⟩ := two_ rv
  rcases hyz with ⟨rfl, rfl⟩ | ⟨rfl, rfl⟩
  · obtain ⟨a, vs, rfl, fa, ra⟩ := At.lst_ rv1
    obtain ⟨b, us, rfl, fb, rb⟩ := At.lst_ ru
    exact ⟨a, b, vs, us, rfl, .inl ⟨.of (R1.sub _ _ fa), .of (R1.sub _ _ fb), F1, ι1, M1, _, E1, R1, yld_zip fa ra fb rb, ψ⟩⟩
  · obtain ⟨a, vs, rfl, fa, ra⟩ := At.tup_ rv1
    obtain ⟨b, us, rfl, fb, rb⟩ := At.tup_ ru
    exact ⟨a, b, vs, us, rfl, .inr ⟨.of (R1.sub _ _ fa), .of (R1.sub _ _ fb), F1, ι1, M1, _, E1, R1, yld_zipT fa ra fb rb, ψ⟩⟩
/-- a, b, c = x, y, z -/
theorem zs_par3 (i j l : Nat) {x y z : Str} {px py pz pt : Pos} {kt k2 pt2} (hc : X.calm = true) (h : ZE X a Γ M fun v M1 => ZE X b Γ M1 fun w M2 => ZE X c Γ M2 fun u M3 => D.nx (((Γ.set i (some v)).set j (some w)).set l (some u)) M3)
    (hN : X.N.Nodup) (hi : X.N[i]? = some x := by rfl) (hj : X.N[j]? = some y := by rfl) (hl : X.N[l]? = some z := by rfl) (hij : i ≠ j := by decide) (hil : i ≠ l := by decide) (hjl : j ≠ l := by decide)
    (hx : X.env.scope.names.lookup x = some .local := by rfl) (hy : X.env.scope.names.lookup y = some .local := by rfl) (hz : X.env.scope.names.lookup z = some .local := by rfl)
    (hw : swappedStores [.Tuple [.Name x px, .Name y py, .Name z pz] kt pt] (.Tuple [a, b, c] k2 pt2) X.env = pure (some [x, y, z]) := by rfl)
    (hs : swapsWithSole [.Tuple [.Name x px, .Name y py, .Name z pz] kt pt] (.Tuple [a, b, c] k2 pt2) pos.line X.env = pure false := by rfl)
    (hs1 : starEach [a, b, c] X.env = (false, eval a X.env) :: starEach [b, c] X.env := by rfl) (hs2 : starEach [b, c] X.env = (false, eval b X.env) :: starEach [c] X.env := by rfl) (hs3 : starEach [c] X.env = (false, eval c X.env) :: starEach [] X.env := by rfl) :
    ZS X (.Assign [.Tuple [.Name x px, .Name y py, .Name z pz] kt pt] (.Tuple [a, b, c] k2 pt2) pos) Γ M D := fun F ι σ H R S => by
  have ha : ZA X [a, b, c] Γ M fun ws M2 => ∃ v w u, ws = [v, w, u] ∧ D.nx (((Γ.set i (some v)).set j (some w)).set l (some u)) M2 :=
    za_cons (h.mono fun v M1 q => za_cons (q.mono fun w M2 q2 => za_cons (q2.mono fun u M3 q3 => za_nil ⟨v, w, u, rfl, q3⟩) hs3) hs2) hs1
  refine w_s (ps_par3 hc hN hi hj hl hij hil hjl hx hy hz pa_w hw hs) ((ha F ι σ H R S).mono ?_)
  rintro vs H1 ⟨F1, ι1, M1, ws, E1, R1, r, v, w, u, rfl, q⟩
  cases r with
  | cons r1 r2 =>
    cases r2 with
    | cons r2 r3 =>
      cases r3 with
      | cons r3 r4 =>
        cases r4
        exact ⟨_, _, _, rfl, F1, ι1, M1, _, E1, R1, (((E1.slots S).set i r1).set j r2).set l r3, q⟩
/-- what a lent argument is read as: data, or a list's cell whose parts are data -/
def LendW (M : MS) (w : W) (d : PyData) : Prop := w = .d d ∨ ∃ j ds, w = .m j ∧ M[j]? = some (.lst (ds.map .d)) ∧ d = .list ds
theorem lend_at {F H : Hp} {ι : List Addr} {v : V} {w : W} {d : PyData} (R : Rep F H ι M) (r : RW F ι v w) (h : LendW M w d) : At H v d := by
  rcases h with rfl | ⟨j, ds, rfl, hm, rfl⟩
  · exact At.up R.sub r
  · obtain ⟨c, vs, rfl, _, h1, r'⟩ := cell_at R r hm
    exact .lst h1 ((RWs.dat r').up R.sub)
theorem flat_at {F F' : Hp} {v : V} {d : PyData} (h : At F v d) (f : flatD d = true) : At F' v d := by
  cases h with
  | non => exact .non
  | bl b => exact .bl b
  | int i => exact .int i
  | str x => exact .str x
  | lst _ _ => cases f
  | tup _ _ => cases f
  | dic _ _ => cases f
/-- a call of a def that only reads: its arguments are lent, its answer is no object -/
theorem ze_lend {T : Top} {k : Nat} {x : Str} {ps : List Str} {S : ZSp} (C : Fz T k x ps S) (o : On T X) (hr : RoomZ k X.A)
    (h : ZA X (e :: es) Γ M fun ws M1 => ws.length = ps.length ∧ ∃ ds, Paired (LendW M1) ws ds ∧ S (ds.map .d) [] fun w _ => ∃ d, w = .d d ∧ flatD d = true ∧ Φ (.d d) M1) (hg : Gl X x := by rfl) (hdb : (x == ("__debug__" : Str)) = false := by decide)
    (he : starEach (e :: es) X.env = (false, eval e X.env) :: starEach es X.env := by rfl) (hpl : (backTo pos (starEach es X.env)).any (·.1) = false := by rfl) :
    ZE X (.Call (.Name x p) (e :: es) [] pos) Γ M Φ := fun F ι σ H R Sl pins s I => by
  obtain ⟨f, fd, hm, hk, hb, G⟩ := C
  obtain ⟨oP, ow, oK, omg, ob⟩ := o
  refine wpAny_Call_Name_kw (ld_glob I hg (by rw [omg]; exact hm) ?_ hdb)
  refine PySem.W.callWith_K (h₀ := X.base) I.ok.mod.kin (by rw [oK]; exact hk) (thn (h F ι σ H R Sl pos pins s I) ?_) he hpl
  rintro us s1 ⟨vs, H1, I1, r, F1, ι1, M1, ws, E1, R1, rw', hl, ds, hd, hS⟩
  refine ⟨I1.kIn, wpAny_call ?_⟩
  have e0 := I1.env0
  have hv : vs.length = ps.length := by rw [rw'.len]; exact hl
  have hu : us.length = ps.length := by rw [← r.length]; exact hv
  have kin : T.K.In s1.heap := by rw [← oK]; exact I1.kIn
  have hb' := hb s1 us kin (by simpa using hu)
  rw [List.append_nil] at hb'
  rw [oP, ow] at e0 ⊢
  rw [oK, omg, ob] at e0
  have all : ∀ {vs : List V} {ws : List W} {ds : List PyData}, RWs F1 ι1 vs ws → Paired (LendW M1) ws ds → RWs H1 [] vs (ds.map .d) := by
    intro vs ws ds h1 h2
    induction h1 generalizing ds with
    | nil => cases h2; exact .nil
    | cons a _ ih =>
      cases h2 with
      | cons b t => exact .cons (lend_at R1 a b) (ih t)
  have R0 : Rep H1 H1 [] [] := ⟨Same.refl H1, rfl, List.nodup_nil, fun a m => absurd m (by simp), fun k a mo e => by simp at e⟩
  refine codeAny_mono (G.run X.A X.stack s1 H1 ⟨us, []⟩ us vs (Post F ι H Φ) E0 hr e0 hb' r ⟨hv, H1, [], [], ds.map .d, _, R0, all rw' hd, hS, fun v H' q => ?_⟩) fun r s' hq => ?_
  · obtain ⟨F', ι', M', w, E2, R2, rw2, d, rfl, fl, φ⟩ := q
    have kp : Same H1 H' := fun a o e => E2.kp a o e (by simp)
    have E3 : Ext F1 ι1 H1 F1 ι1 H' := ⟨Same.refl F1, ⟨[], by simp⟩, fun a o e _ => kp a o e, fun a m n => absurd m n, fun a o e n => by rw [n] at e; cases e⟩
    have R3 : Rep F1 H' ι1 M1 := ⟨R1.sub.trans kp, R1.len, R1.nd, fun a m => let ⟨o, e⟩ := R1.tr a m; ⟨o, kp a o e⟩, fun k a mo h1 h2 => by
      rcases R1.at_ k a mo h1 h2 with z | ⟨z1, o, z2, z3⟩
      · exact .inl z
      · exact .inr ⟨z1, o, kp a o z2, z3⟩⟩
    exact ⟨F1, ι1, M1, .d d, E1.trans E3, R3, flat_at rw2 fl, φ⟩
  · cases r with
    | error e => exact False.elim hq
    | ok fl =>
      cases fl with
      | ret u => exact I1.after (by rw [oP, ow]; exact hq)
      | next => exact False.elim hq
      | brk => exact False.elim hq
      | cont => exact False.elim hq
end
end Z

/-! Z21: houses, tables, deeds: the data, what the law's draws may give. -/
namespace Z
open PySem PySem.Spec PyProof.Rows L2
/-! ### small help -/
theorem at_end {α : Type} (A : List α) (x : α) : (A ++ [x])[A.length]? = some x := by simp
theorem set_end {α : Type} (A : List α) (x y : α) : (A ++ [x]).set A.length y = A ++ [y] := by simp
theorem cl_bag {b b' : Bag} {R : MS} (h : Cl (bagO b :: R)) : Cl (bagO b' :: R) := fun mo hm => by
  rcases List.mem_cons.mp hm with rfl | hm
  · intro w hw
    simp only [List.mem_cons, List.not_mem_nil, or_false] at hw
    rcases hw with rfl | rfl | rfl | rfl <;> trivial
  · exact h mo (List.mem_cons_of_mem _ hm)
theorem fin_list {A : MS} {n : Nat} {es : List PyData} {Φ : W → MS → Prop} (hn : n ≤ A.length) (cl : Cl A) (h : Φ (.d (.list es)) A) : Fin n Φ (.m A.length) (A ++ [.lst (es.map .d)]) := by
  refine Fin.frz (ds := es) (at_end A _) ?_
  rw [set_end]
  exact Fin.drop hn cl trivial (.ok h)
theorem fin_dict {A : MS} {n : Nat} {ks : List (Key × PyData)} {Φ : W → MS → Prop} (hn : n ≤ A.length) (cl : Cl A) (h : Φ (.d (dictK ks)) A) : Fin n Φ (.m A.length) (A ++ [.dic (ks.map fun q => (q.1, .d q.2))]) := by
  refine Fin.frzD (kws := ks) (at_end A _) ?_
  rw [set_end]
  exact Fin.drop hn cl trivial (.ok h)
theorem fin_dat {A J : MS} {n : Nat} {d : PyData} {Φ : W → MS → Prop} (hn : n ≤ A.length) (cl : Cl A) (h : Φ (.d d) A) : Fin n Φ (.d d) (A ++ J) := Fin.drop hn cl trivial (.ok h)
theorem perm_insert {α : Type} (es : List α) (i : Nat) (z : α) : (es.take i ++ [z] ++ es.drop i).Perm (es ++ [z]) := by
  have h : (es.take i ++ ([z] ++ es.drop i)).Perm (es.take i ++ (es.drop i ++ [z])) := List.Perm.append_left _ List.perm_append_comm
  rw [← List.append_assoc, ← List.append_assoc, List.take_append_drop] at h
  exact h
theorem perm_map {α β : Type} {f : α → β} {g : β → α} (hg : ∀ a, g (f a) = a) {es : List β} {l : List α} (h : es.Perm (l.map f)) : ∃ l' : List α, es = l'.map f ∧ l'.Perm l := by
  refine ⟨es.map g, ?_, ?_⟩
  · rw [List.map_map]
    refine (List.map_id es).symm.trans (List.map_congr_left fun e he => ?_)
    obtain ⟨a, _, rfl⟩ := List.mem_map.mp (h.mem_iff.mp he)
    simp [hg]
  · have := h.map g
    rw [List.map_map] at this
    rw [show (g ∘ f) = id from funext hg, List.map_id] at this
    exact this
theorem mem_ints {ns : List Int} {d : PyData} (h : d ∈ ns.map PyData.int) : ∃ n ∈ ns, d = .int n := by
  obtain ⟨n, hn, rfl⟩ := List.mem_map.mp h
  exact ⟨n, hn, rfl⟩
def unS : PyData → Str
  | .str x => x
  | _ => Str.empty
theorem perm_strs {es : List PyData} {ss : List Str} (h : es.Perm (ss.map .str)) : ∃ ss' : List Str, es = ss'.map .str ∧ ss'.Perm ss := perm_map (g := unS) (fun _ => rfl) h
theorem cut_take {α : Type} (xs : List α) {n : Int} (h : 0 ≤ n) : cutD xs none (some n) = xs.take n.toNat := by
  unfold cutD
  rw [sx h, HT.sIx_none, List.drop_zero, Nat.sub_zero]
  by_cases k : n.toNat ≤ xs.length
  · rw [Nat.min_eq_left k]
  · rw [Nat.min_eq_right (by omega), List.take_of_length_le (Nat.le_refl _), List.take_of_length_le (by omega)]
theorem atI_get {α : Type} {xs : List α} {i : Int} (h0 : 0 ≤ i) (h1 : i < xs.length) : ∃ x, atI xs i = some x ∧ x ∈ xs := by
  have hi : i.toNat < xs.length := by omega
  refine ⟨xs[i.toNat], ?_, List.getElem_mem hi⟩
  have := atI_nat (List.getElem?_eq_getElem hi)
  rwa [Int.toNat_of_nonneg h0] at this
/-! ### the data -/
structure HRow where
  name : Str
  least : Int
  most : Option Int
def optD : Option Int → PyData
  | none => .none
  | some i => .int i
def rowD (r : HRow) : PyData := .tuple [.str r.name, .int r.least, optD r.most]
def houseD (h : List HRow) : PyData := .tuple (h.map rowD)
structure RowOk (r : HRow) : Prop where
  l0 : 0 ≤ r.least
  l1 : r.least ≤ 3
  m : ∀ x, r.most = some x → r.least ≤ x ∧ x ≤ 20
theorem rowOk {nm : Str} {l : Int} {m : Option Int} (h0 : 0 ≤ l) (h1 : l ≤ 3) (h2 : ∀ x, m = some x → l ≤ x ∧ x ≤ 20) : RowOk ⟨nm, l, m⟩ := ⟨h0, h1, h2⟩
def menu : List Str := ["a", "b", "c", "ab", "rank", "kth", "open", "sort", "rows", "is", "at", "count", "fact", "zzzzzz", "x", "gym", "jvl"]
structure HouseOk (h : List HRow) : Prop where
  n0 : h ≠ []
  n1 : h.length ≤ 9
  nd : (h.map (·.name)).Nodup
  mem : ∀ r ∈ h, r.name ∈ menu
  row : ∀ r ∈ h, RowOk r
abbrev Tab := List (Str × List Int)
def tabD (t : Tab) : PyData := dictK (t.map fun p => (.inr p.1, .tuple (p.2.map .int)))
structure TabOk (h : List HRow) (pool : List Int) (t : Tab) : Prop where
  keys : (t.map (·.1)).Perm (h.map (·.name))
  rows : ∀ p ∈ t, p.2.Pairwise (· ≤ ·) ∧ p.2.length ≤ 40 ∧ ∀ n ∈ p.2, n ∈ pool
inductive Deed where
  | come (a : Str) (n : Int)
  | go (a : Str) (k : Int)
  | keep (a : Str) (k : Int)
  | move (a : Str) (k : Int) (b : Str)
  | merge (a b : Str)
def deedD : Deed → PyData
  | .come a n => .tuple [.str "come", .str a, .int n]
  | .go a k => .tuple [.str "go", .str a, .int k]
  | .keep a k => .tuple [.str "keep", .str a, .int k]
  | .move a k b => .tuple [.str "move", .str a, .int k, .str b]
  | .merge a b => .tuple [.str "merge", .str a, .str b]
def DeedOk (names : List Str) (pool : List Int) : Deed → Prop
  | .come a n => a ∈ names ∧ n ∈ pool
  | .go a k => a ∈ names ∧ 1 ≤ k ∧ k ≤ 1000
  | .keep a k => a ∈ names ∧ 0 ≤ k ∧ k ≤ 1000
  | .move a k b => a ∈ names ∧ 1 ≤ k ∧ k ≤ 1000 ∧ b ∈ names ∧ a ≠ b
  | .merge a b => a ∈ names ∧ b ∈ names ∧ a ≠ b
def scriptD (ds : List Deed) : PyData := .tuple (ds.map deedD)
theorem get_map {α β : Type} {f : α → β} {xs : List α} {i : Nat} {d : β} (h : (xs.map f)[i]? = some d) : ∃ x, xs[i]? = some x ∧ d = f x := by
  rw [List.getElem?_map] at h
  cases e : xs[i]? with
  | none => rw [e] at h; cases h
  | some x => rw [e] at h; exact ⟨x, rfl, (Option.some.inj h).symm⟩
theorem take_next {α : Type} {xs : List α} {i : Nat} {x : α} (h : xs[i]? = some x) : xs.take (i + 1) = xs.take i ++ [x] := by rw [List.take_add_one, h]; rfl
def unOpt : PyData → Option Int
  | .int i => some i
  | _ => none
def unRow : PyData → HRow
  | .tuple [.str n, .int l, m] => ⟨n, l, unOpt m⟩
  | _ => ⟨Str.empty, 0, none⟩
theorem unRow_ok (r : HRow) : unRow (rowD r) = r := by
  obtain ⟨n, l, _ | m⟩ := r <;> rfl
theorem perm_rows {es : List PyData} {h : List HRow} (p : es.Perm (h.map rowD)) : ∃ h' : List HRow, es = h'.map rowD ∧ h'.Perm h := perm_map unRow_ok p
theorem all_of {α : Type} {f : α → PyData} {P : α → Prop} : ∀ {zs : List PyData}, (∀ z ∈ zs, ∃ n, P n ∧ z = f n) → ∃ ns : List α, zs = ns.map f ∧ ∀ n ∈ ns, P n
  | [], _ => ⟨[], rfl, by simp⟩
  | z :: zs, h => by
    obtain ⟨n, hn, rfl⟩ := h z List.mem_cons_self
    obtain ⟨ns, rfl, hs⟩ := all_of fun y hy => h y (List.mem_cons_of_mem _ hy)
    exact ⟨n :: ns, rfl, fun m hm => by
      rcases List.mem_cons.mp hm with rfl | hm
      · exact hn
      · exact hs m hm⟩
theorem tab_new {h hs : List HRow} {t : Tab} {i : Nat} {r : HRow} (ok : HouseOk h) (ph : hs.Perm h) (hr : hs[i]? = some r) (ht : t.map (·.1) = (hs.take i).map (·.name)) :
    ((t.map fun p : Str × List Int => ((Sum.inr p.1 : Key), W.d (.tuple (p.2.map .int)))).any fun kv => decide (kv.1 = Sum.inr r.name)) = false := by
  rw [List.any_eq_false]
  intro kv hkv z
  have e : kv.1 = Sum.inr r.name := of_decide_eq_true z
  obtain ⟨p, hp, rfl⟩ := List.mem_map.mp hkv
  have e2 : p.1 = r.name := Sum.inr.inj e
  have m1 : r.name ∈ (hs.take i).map (·.name) := by rw [← ht, ← e2]; exact List.mem_map.mpr ⟨p, hp, rfl⟩
  have nd : (hs.map (·.name)).Nodup := (ph.map _).nodup_iff.mpr ok.nd
  have e3 : hs.map (·.name) = (hs.take i).map (·.name) ++ (hs.drop i).map (·.name) := by rw [← List.map_append, List.take_append_drop]
  rw [e3, List.nodup_append] at nd
  have m2 : r.name ∈ (hs.drop i).map (·.name) := by
    refine List.mem_map.mpr ⟨r, ?_, rfl⟩
    have := (List.getElem?_eq_some_iff.mp hr)
    obtain ⟨hi, hv⟩ := this
    rw [← hv, List.drop_eq_getElem_cons hi]
    exact List.mem_cons_self
  exact nd.2.2 _ m1 _ m2 rfl
/-! ### what the law's helpers promise -/
def SeqD (w : W) (ds : List PyData) : Prop := w = .d (.list ds) ∨ w = .d (.tuple ds)
def oneS : ZSp := fun ws M Φ => ∃ (b : Bag) (R : MS) (w : W) (ds : List PyData), ws = [.m 0, w] ∧ M = bagO b :: R ∧ SeqD w ds ∧ b.Good ∧ 0 < ds.length ∧ ds.length < 1000 ∧
  ∀ (d : PyData) (b' : Bag), d ∈ ds → b'.Good → Φ (.d d) (bagO b' :: R)
def mixedS : ZSp := fun ws M Φ => ∃ (b : Bag) (R : MS) (w : W) (ds : List PyData), ws = [.m 0, w] ∧ M = bagO b :: R ∧ SeqD w ds ∧ b.Good ∧ ds.length < 1000 ∧
  ∀ (es : List PyData) (b' : Bag), es.Perm ds → b'.Good → Φ (.d (.list es)) (bagO b' :: R)
theorem names_end {ss : List Str} {many : Int} (ps : ss.Perm menu) (h1 : 1 ≤ many) (h2 : many ≤ 9) : (sortS (ss.take many.toNat)).Nodup ∧ ((sortS (ss.take many.toNat)).length : Int) = many ∧ ∀ s ∈ sortS (ss.take many.toNat), s ∈ menu := by
  have hl : ss.length = 17 := by rw [ps.length_eq]; rfl
  refine ⟨(sortS_perm _).nodup_iff.mpr ((ps.nodup_iff.mpr (by decide)).sublist (List.take_sublist _ _)), ?_, fun s hs => ps.mem_iff.mp (List.mem_of_mem_take ((sortS_perm _).mem_iff.mp hs))⟩
  rw [(sortS_perm _).length_eq, List.length_take]
  omega
def namesS : ZSp := fun ws M Φ => ∃ (b : Bag) (R : MS) (many : Int), ws = [.m 0, .d (.int many)] ∧ M = bagO b :: R ∧ b.Good ∧ 1 ≤ many ∧ many ≤ 9 ∧
  ∀ (ss : List Str) (b' : Bag), ss.Nodup → (ss.length : Int) = many → (∀ s ∈ ss, s ∈ menu) → b'.Good → Φ (.d (.tuple (ss.map .str))) (bagO b' :: R)
def sortRowS : ZSp := fun ws M Φ => ∃ (b : Bag) (R : MS) (nm : Str), ws = [.m 0, .d (.str nm)] ∧ M = bagO b :: R ∧ b.Good ∧
  ∀ (l : Int) (m : Option Int) (b' : Bag), RowOk ⟨nm, l, m⟩ → b'.Good → Φ (.d (rowD ⟨nm, l, m⟩)) (bagO b' :: R)
def houseS : ZSp := fun ws M Φ => ∃ (b : Bag) (R : MS) (most : Int), ws = [.m 0, .d (.int most)] ∧ M = bagO b :: R ∧ b.Good ∧ 1 ≤ most ∧ most ≤ 9 ∧
  ∀ (h : List HRow) (b' : Bag), HouseOk h → b'.Good → Φ (.d (houseD h)) (bagO b' :: R)
def numB : Int := 10000000000000000000000000000000000000000
def PoolOk (pool : List Int) : Prop := pool ≠ [] ∧ pool.length ≤ 7 ∧ ∀ n ∈ pool, -numB ≤ n ∧ n ≤ numB
def numbersS : ZSp := fun ws M Φ => ∃ (b : Bag) (R : MS), ws = [.m 0] ∧ M = bagO b :: R ∧ b.Good ∧
  ∀ (pool : List Int) (b' : Bag), PoolOk pool → b'.Good → Φ (.d (.list (pool.map .int))) (bagO b' :: R)
def sizeS : ZSp := fun ws M Φ => ∃ (b : Bag) (R : MS) (r : HRow) (more : Int), ws = [.m 0, .d (rowD r), .d (.int more)] ∧ M = bagO b :: R ∧ b.Good ∧ RowOk r ∧ 0 ≤ more ∧ more ≤ 9 ∧
  ∀ (n : Int) (b' : Bag), 0 ≤ n → n ≤ 40 → b'.Good → Φ (.d (.int n)) (bagO b' :: R)
def tableS : ZSp := fun ws M Φ => ∃ (b : Bag) (R : MS) (h : List HRow) (pool : List Int) (more : Int), ws = [.m 0, .d (houseD h), .d (.list (pool.map .int)), .d (.int more)] ∧ M = bagO b :: R ∧ b.Good ∧ HouseOk h ∧ 0 < pool.length ∧ pool.length < 1000 ∧ 0 ≤ more ∧ more ≤ 9 ∧
  ∀ (t : Tab) (b' : Bag), TabOk h pool t → b'.Good → Φ (.d (tabD t)) (bagO b' :: R)
def deedS : ZSp := fun ws M Φ => ∃ (b : Bag) (R : MS) (h : List HRow) (pool : List Int) (most : Int), ws = [.m 0, .d (houseD h), .d (.list (pool.map .int)), .d (.int most)] ∧ M = bagO b :: R ∧ b.Good ∧ HouseOk h ∧ 0 < pool.length ∧ pool.length < 1000 ∧ 1 ≤ most ∧ most ≤ 900 ∧
  ∀ (d : Deed) (b' : Bag), DeedOk (h.map (·.name)) pool d → b'.Good → Φ (.d (deedD d)) (bagO b' :: R)
def scriptS : ZSp := fun ws M Φ => ∃ (b : Bag) (R : MS) (h : List HRow) (pool : List Int) (many most : Int), ws = [.m 0, .d (houseD h), .d (.list (pool.map .int)), .d (.int many), .d (.int most)] ∧ M = bagO b :: R ∧ b.Good ∧ HouseOk h ∧ 0 < pool.length ∧ pool.length < 1000 ∧ 0 ≤ many ∧ many ≤ 40 ∧ 1 ≤ most ∧ most ≤ 900 ∧
  ∀ (ds : List Deed) (b' : Bag), (ds.length : Int) ≤ many → (∀ d ∈ ds, DeedOk (h.map (·.name)) pool d) → b'.Good → Φ (.d (scriptD ds)) (bagO b' :: R)
end Z

/-! Z22: counts by name, what a deed does to them; promises of the plain defs. -/
namespace Z
open PySem PySem.Spec PyProof.Rows L2
section
variable {X : Cx} {a b : Expr} {Γ : GS} {M : MS} {Φ : W → MS → Prop}
theorem zc_eqS (h : ZE X a Γ M fun x M1 => ZE X b Γ M1 fun y M2 => ∃ i j : Str, x = .d (.str i) ∧ y = .d (.str j) ∧ Φ (.d (.bool (decide (i = j)))) M2) : ZC X .Eq a b Γ M Φ :=
  zc op_eq h fun F ι H M v u x y Q R rx ry ψ hQ => by
    obtain ⟨i, j, rfl, rfl, φ⟩ := ψ
    rw [At.str_ rx, At.str_ ry]
    refine ⟨rfl, hQ _ _ (Post.dat R (x := .bool (decide (i = j))) ?_ φ)⟩
    have e : decide (V.str i = V.str j) = decide (i = j) := by
      by_cases h : i = j
      · rw [decide_eq_true h, decide_eq_true (congrArg V.str h)]
      · rw [decide_eq_false h, decide_eq_false fun z => h (V.str.inj z)]
    rw [e]
    exact .bl _
theorem zc_neS (h : ZE X a Γ M fun x M1 => ZE X b Γ M1 fun y M2 => ∃ i j : Str, x = .d (.str i) ∧ y = .d (.str j) ∧ Φ (.d (.bool (!decide (i = j)))) M2) : ZC X .NotEq a b Γ M Φ :=
  zc op_ne h fun F ι H M v u x y Q R rx ry ψ hQ => by
    obtain ⟨i, j, rfl, rfl, φ⟩ := ψ
    rw [At.str_ rx, At.str_ ry]
    refine ⟨rfl, hQ _ _ (Post.dat R (x := .bool (!decide (i = j))) ?_ φ)⟩
    have e : decide (V.str i = V.str j) = decide (i = j) := by
      by_cases h : i = j
      · rw [decide_eq_true h, decide_eq_true (congrArg V.str h)]
      · rw [decide_eq_false h, decide_eq_false fun z => h (V.str.inj z)]
    rw [e]
    exact .bl _
theorem IxW.tupE {d x : PyData} {ds : List PyData} {i : Int} (e : d = .tuple ds) (h : atI ds i = some x) (φ : Φ (.d x) M) : IxW (.d d) (.d (.int i)) M Φ := .inl ⟨ds, i, x, .inr (by rw [e]), rfl, h, φ⟩
end
abbrev Cts := List (Str × Int)
def getA (cs : Cts) (a : Str) : Int := ((cs.find? fun p => decide (p.1 = a)).map (·.2)).getD 0
def setA (cs : Cts) (a : Str) (v : Int) : Cts := cs.map fun p => if p.1 = a then (p.1, v) else p
def encA (cs : Cts) : List (Key × W) := cs.map fun p => ((Sum.inr p.1 : Key), W.d (.int p.2))
theorem setA_keys (cs : Cts) (a : Str) (v : Int) : (setA cs a v).map (·.1) = cs.map (·.1) := by
  unfold setA
  rw [List.map_map]
  exact List.map_congr_left fun p _ => by
    show (if p.1 = a then (p.1, v) else p).1 = p.1
    split <;> rfl
theorem look_encA : ∀ {cs : Cts} {a : Str}, a ∈ cs.map (·.1) → lookK (encA cs) (.inr a) = some (.d (.int (getA cs a)))
  | [], a, h => by simp at h
  | p :: cs, a, h => by
    by_cases e : p.1 = a
    · subst e
      simp [lookK, encA, getA]
    · have h2 : a ∈ cs.map (·.1) := by
        rcases List.mem_cons.mp h with z | z
        · exact absurd z.symm e
        · exact z
      have ih := look_encA h2
      simp only [lookK, encA, getA, List.map_cons, List.find?_cons] at ih ⊢
      have e2 : decide ((Sum.inr p.1 : Key) = Sum.inr a) = false := decide_eq_false fun z => e (Sum.inr.inj z)
      rw [e2, decide_eq_false e]
      exact ih
theorem put_encA {cs : Cts} {a : Str} (v : Int) (h : a ∈ cs.map (·.1)) : putW (encA cs) (.inr a) (.d (.int v)) = encA (setA cs a v) := by
  have e : ((encA cs).any fun kv => decide (kv.1 = Sum.inr a)) = true := by
    rw [List.any_eq_true]
    obtain ⟨p, hp, rfl⟩ := List.mem_map.mp h
    exact ⟨_, List.mem_map.mpr ⟨p, hp, rfl⟩, by simp⟩
  unfold putW
  rw [e, if_pos rfl]
  unfold encA setA
  rw [List.map_map, List.map_map]
  refine List.map_congr_left fun p _ => ?_
  show (if (Sum.inr p.1 : Key) = Sum.inr a then _ else _) = ((Sum.inr (if p.1 = a then (p.1, v) else p).1 : Key), W.d (.int (if p.1 = a then (p.1, v) else p).2))
  by_cases e : p.1 = a
  · rw [if_pos (congrArg Sum.inr e), if_pos e]
  · rw [if_neg (fun z => e (Sum.inr.inj z)), if_neg e]
theorem getA_set {cs : Cts} {a b : Str} (v : Int) (h : a ∈ cs.map (·.1)) : getA (setA cs a v) b = if b = a then v else getA cs b := by
  induction cs with
  | nil => simp at h
  | cons p cs ih =>
    unfold getA setA at ih ⊢
    rw [List.map_cons, List.find?_cons, List.find?_cons]
    by_cases e : p.1 = a
    · rw [if_pos e]
      by_cases f : b = a
      · subst f
        simp [e]
      · have n1 : decide (p.1 = b) = false := decide_eq_false fun z => f (z.symm.trans e)
        rw [if_neg f]
        simp only [n1]
        have same : ∀ cs : Cts, ((cs.map fun p => if p.1 = a then (p.1, v) else p).find? fun p => decide (p.1 = b)) = cs.find? fun p => decide (p.1 = b) := by
          intro cs
          induction cs with
          | nil => rfl
          | cons q cs ih2 =>
            rw [List.map_cons, List.find?_cons, List.find?_cons, ih2]
            by_cases g : q.1 = a
            · rw [if_pos g]
              have n2 : decide (q.1 = b) = false := decide_eq_false fun z => f (z.symm.trans g)
              simp only [n2]
            · rw [if_neg g]
        rw [same]
    · rw [if_neg e]
      have h2 : a ∈ cs.map (·.1) := by
        rcases List.mem_cons.mp h with z | z
        · exact absurd z.symm e
        · exact z
      by_cases g : p.1 = b
      · have n : b ≠ a := fun z => e (g.trans z)
        simp [g, n]
      · simp only [decide_eq_false g]
        exact ih h2
def stepA (num : Int) (cs : Cts) : Deed → Cts
  | .come a n => setA cs a (getA cs a + if decide (num ≤ n) = true then 1 else 0)
  | .go a k => if k ≤ getA cs a then setA cs a (getA cs a - 1) else cs
  | .keep a k => setA cs a (if k < getA cs a then k else getA cs a)
  | .move a k b => if k ≤ getA cs a then setA (setA cs a (getA cs a - 1)) b (getA (setA cs a (getA cs a - 1)) b + 1) else cs
  | .merge a b => setA (setA cs b (getA cs b + getA cs a)) a 0
def runA (num : Int) (cs : Cts) (ds : List Deed) : Cts := ds.foldl (stepA num) cs
theorem stepA_keys (num : Int) (cs : Cts) (d : Deed) : (stepA num cs d).map (·.1) = cs.map (·.1) := by
  cases d with
  | come a n => exact setA_keys ..
  | go a k =>
    show (if k ≤ getA cs a then setA cs a (getA cs a - 1) else cs).map (·.1) = _
    split
    · exact setA_keys ..
    · rfl
  | keep a k => exact setA_keys ..
  | move a k b =>
    show (if k ≤ getA cs a then setA (setA cs a (getA cs a - 1)) b (getA (setA cs a (getA cs a - 1)) b + 1) else cs).map (·.1) = _
    split
    · rw [setA_keys, setA_keys]
    · rfl
  | merge a b =>
    show (setA (setA cs b (getA cs b + getA cs a)) a 0).map (·.1) = _
    rw [setA_keys, setA_keys]
theorem runA_keys (num : Int) : ∀ (ds : List Deed) (cs : Cts), (runA num cs ds).map (·.1) = cs.map (·.1)
  | [], _ => rfl
  | d :: ds, cs => (runA_keys num ds _).trans (stepA_keys num cs d)
/-- the names that a deed speaks of -/
def InN (names : List Str) : Deed → Prop
  | .come a _ => a ∈ names
  | .go a _ => a ∈ names
  | .keep a _ => a ∈ names
  | .move a _ b => a ∈ names ∧ b ∈ names ∧ a ≠ b
  | .merge a b => a ∈ names ∧ b ∈ names ∧ a ≠ b
theorem DeedOk.inN {names : List Str} {pool : List Int} {d : Deed} (h : DeedOk names pool d) : InN names d := by
  cases d with
  | come a n => exact h.1
  | go a k => exact h.1
  | keep a k => exact h.1
  | move a k b => exact ⟨h.1, h.2.2.2.1, h.2.2.2.2⟩
  | merge a b => exact h
def afterS : ZSp := fun ws M Φ => ∃ (j : Nat) (cs : Cts) (d : Deed) (num : Int), ws = [.m j, .d (deedD d), .d (.int num)] ∧ M[j]? = some (.dic (encA cs)) ∧ InN (cs.map (·.1)) d ∧ cs.length < 1000 ∧
  Φ (.d .none) (M.set j (.dic (encA (stepA num cs d))))
def sorts (h : List HRow) : List Str := h.map (·.name)
def ctsD (cs : Cts) : PyData := .tuple (cs.map fun p => .int p.2)
/-- counts behind a script; the law's map tells the same -/
def behindS : ZSp := fun ws M Φ => ∃ (h : List HRow) (ds : List Deed) (num : Int) (c : List Int), ws = [.d (houseD h), .d (scriptD ds), .d (.int num), .d (.tuple (c.map .int))] ∧ HouseOk h ∧ c.length = h.length ∧ (∀ d ∈ ds, InN (sorts h) d) ∧ ds.length < 1000 ∧
  Φ (.d (ctsD (runA num (List.zip (sorts h) c) ds))) M
def withinS : ZSp := fun ws M Φ => ∃ (c c' : List Int), ws = [.d (.tuple (c.map .int)), .d (.tuple (c'.map .int))] ∧ c.length < 1000 ∧ (∀ p ∈ List.zip c c', p.1 ≤ p.2) ∧ Φ (.d (.bool true)) M
def getT (t : Tab) (a : Str) : List Int := ((t.find? fun p => decide (p.1 = a)).map (·.2)).getD []
def cnt (num : Int) (rows : List Int) : Int := ((rows.filter fun x => decide (num ≤ x)).length : Nat)
theorem look_tab : ∀ {t : Tab} {a : Str}, a ∈ t.map (·.1) → lookK (t.map fun p : Str × List Int => ((Sum.inr p.1 : Key), PyData.tuple (p.2.map .int))) (.inr a) = some (.tuple ((getT t a).map .int))
  | [], a, h => by simp at h
  | p :: cs, a, h => by
    by_cases e : p.1 = a
    · subst e
      simp [lookK, getT]
    · have h2 : a ∈ cs.map (·.1) := by
        rcases List.mem_cons.mp h with z | z
        · exact absurd z.symm e
        · exact z
      have ih := look_tab h2
      simp only [lookK, getT, List.map_cons, List.find?_cons] at ih ⊢
      have e2 : decide ((Sum.inr p.1 : Key) = Sum.inr a) = false := decide_eq_false fun z => e (Sum.inr.inj z)
      rw [e2, decide_eq_false e]
      exact ih
theorem pairs_ints (c c' : List Int) : pairsD (c.map .int) (c'.map .int) = (List.zip c c').map fun p : Int × Int => .tuple [.int p.1, .int p.2] := by
  unfold pairsD
  induction c generalizing c' with
  | nil => rfl
  | cons x c ih =>
    cases c' with
    | nil => rfl
    | cons y c' => simp only [List.map_cons, List.zipWith_cons_cons, List.zip_cons_cons, ih c']
theorem getT_len {t : Tab} {a : Str} (h : a ∈ t.map (·.1)) (hl : ∀ p ∈ t, p.2.length < 4000000) : (getT t a).length < 4000000 := by
  unfold getT
  cases e : t.find? fun p => decide (p.1 = a) with
  | none => decide
  | some p => exact hl p (List.mem_of_find?_eq_some e)
theorem cnt_filter (num : Int) (rows : List Int) : rows.filterMap (fun n => if decide (num ≤ n) = true then some (PyData.int n) else none) = (rows.filter fun x => decide (num ≤ x)).map .int := by
  induction rows with
  | nil => rfl
  | cons x r ih =>
    rw [List.filterMap_cons, List.filter_cons]
    by_cases e : num ≤ x
    · simp only [decide_eq_true e, if_true, List.map_cons, ih]
    · simp only [decide_eq_false e, Bool.false_eq_true, if_false, ih]
/-- how many rows of each sort reach the number -/
def atS : ZSp := fun ws M Φ => ∃ (h : List HRow) (t : Tab) (num : Int), ws = [.d (houseD h), .d (tabD t), .d (.int num)] ∧ HouseOk h ∧ (∀ r ∈ h, r.name ∈ t.map (·.1)) ∧ (∀ p ∈ t, p.2.length < 4000000) ∧
  Φ (.d (.tuple (h.map fun r => .int (cnt num (getT t r.name))))) M
def comeN : Deed → Option Int
  | .come _ n => some n
  | _ => none
def comesOf (ds : List Deed) : List Int := ds.filterMap comeN
theorem comes_map (ds : List Deed) : ds.filterMap (fun d => (comeN d).map PyData.int) = (comesOf ds).map .int := by
  unfold comesOf
  rw [List.map_filterMap]
theorem ints_inj : ∀ {a b : List Int}, a.map (fun k => W.d (.int k)) = b.map (fun k => W.d (.int k)) → a = b
  | [], [], _ => rfl
  | [], _ :: _, h => by simp at h
  | _ :: _, [], h => by simp at h
  | x :: a, y :: b, h => by
    rw [List.map_cons, List.map_cons] at h
    injection h with h1 h2
    injection h1 with h1
    injection h1 with h1
    rw [h1, ints_inj h2]
theorem comes_len (ds : List Deed) : (comesOf ds).length ≤ ds.length := List.length_filterMap_le _ _
/-- a deed's word -/
theorem deed_word (d : Deed) : ∃ (wd : Str) (rest : List PyData), ((wd = "come" → ∃ a n, d = .come a n) ∧ (wd ≠ "come" → comeN d = none)) ∧ deedD d = .tuple (.str wd :: rest) := by
  cases d with
  | come a n => exact ⟨_, _, ⟨fun _ => ⟨a, n, rfl⟩, fun h => absurd rfl h⟩, rfl⟩
  | go a k => exact ⟨_, _, ⟨fun h => absurd h (by decide), fun _ => rfl⟩, rfl⟩
  | keep a k => exact ⟨_, _, ⟨fun h => absurd h (by decide), fun _ => rfl⟩, rfl⟩
  | move a k b => exact ⟨_, _, ⟨fun h => absurd h (by decide), fun _ => rfl⟩, rfl⟩
  | merge a b => exact ⟨_, _, ⟨fun h => absurd h (by decide), fun _ => rfl⟩, rfl⟩
/-- the numbers that come, rising -/
def marksS : ZSp := fun ws M Φ => ∃ (ds : List Deed), ws = [.d (scriptD ds)] ∧ ds.length < 60 ∧ RiseW (comesOf ds) fun ks => Φ (.d (.list (ks.map .int))) M
def moreS : ZSp := fun ws M Φ => ∃ (b : Bag) (R : MS) (c : List Int), ws = [.m 0, .d (.tuple (c.map .int))] ∧ M = bagO b :: R ∧ b.Good ∧ c.length < 1000 ∧
  ∀ (c' : List Int) (b' : Bag), c'.length = c.length → (∀ p ∈ List.zip c c', p.1 ≤ p.2 ∧ p.2 ≤ p.1 + 3) → b'.Good → Φ (.d (.tuple (c'.map .int))) (bagO b' :: R)
/-- what may be compared and shown -/
structure Plain (d : PyData) : Prop where
  sh : SeqAt.shaped d = true
  sw : d.showable = true
  dp : d.depth ≤ 60
  ln : d.shown.length ≤ sizeLine
  eq : PyData.eqv d d = true
def alikeS : ZSp := fun ws M Φ => ∃ d, ws = [.d d, .d d] ∧ Plain d ∧ Φ (.d (.bool true)) M
end Z

/-! Z23: small help for stores into a cell. -/
namespace Z
open PySem PySem.Spec PyProof.Rows L2
theorem cell_set {M : MS} {j : Nat} {x y : MO} (h : M[j]? = some y) : (M.set j x)[j]? = some x := List.getElem?_set_self (List.getElem?_eq_some_iff.mp h).1
theorem cell_same {M : MS} {j : Nat} {x : MO} (h : M[j]? = some x) : M.set j x = M := by
  obtain ⟨hj, e⟩ := List.getElem?_eq_some_iff.mp h
  rw [← e]
  exact List.set_getElem_self hj
theorem encA_len (cs : Cts) : (encA cs).length = cs.length := List.length_map _
theorem setA_len (cs : Cts) (a : Str) (v : Int) : (setA cs a v).length = cs.length := List.length_map _
theorem setA_mem {cs : Cts} {a b : Str} {v : Int} (h : b ∈ cs.map (·.1)) : b ∈ (setA cs a v).map (·.1) := by rw [setA_keys]; exact h
end Z

/-! Z24: counts as a dict, counts as a list. -/
namespace Z
open PySem PySem.Spec PyProof.Rows L2
theorem zip_enc : ∀ (ks : List Str) (c : List Int), List.zip (keysS ks) ((c.map PyData.int).map W.d) = encA (List.zip ks c)
  | [], _ => by simp [encA]
  | _ :: _, [] => by simp [encA]
  | k :: ks, x :: c => by
    have ih := zip_enc ks c
    simp only [keysS, encA, List.map_cons, List.zip_cons_cons] at ih ⊢
    rw [ih]
theorem zip_keys {ks : List Str} {c : List Int} (h : c.length = ks.length) : (List.zip ks c).map (·.1) = ks := List.map_fst_zip (by omega)
theorem runA_snoc (num : Int) (cs : Cts) (ds : List Deed) (d : Deed) : runA num cs (ds ++ [d]) = stepA num (runA num cs ds) d := by
  unfold runA
  rw [List.foldl_append]
  rfl
theorem runA_len (num : Int) (cs : Cts) (ds : List Deed) : (runA num cs ds).length = cs.length := by
  have := congrArg List.length (runA_keys num ds cs)
  rwa [List.length_map, List.length_map] at this
theorem getA_head {p : Str × Int} {cs : Cts} : getA (p :: cs) p.1 = p.2 := by simp [getA]
theorem getA_tail {p : Str × Int} {cs : Cts} {a : Str} (h : p.1 ≠ a) : getA (p :: cs) a = getA cs a := by simp [getA, h]
theorem read_all : ∀ {cs : Cts}, (cs.map (·.1)).Nodup → (cs.map (·.1)).map (fun s => PyData.int (getA cs s)) = cs.map fun p => .int p.2
  | [], _ => rfl
  | p :: cs, h => by
    rw [List.map_cons, List.nodup_cons] at h
    rw [List.map_cons, List.map_cons, List.map_cons, getA_head]
    congr 1
    rw [← read_all h.2]
    refine List.map_congr_left fun s hs => ?_
    rw [getA_tail fun z => h.1 (z ▸ hs)]
def lstA (cs : Cts) : List W := cs.map fun p => .d (.int p.2)
theorem lst_zip : ∀ {ks : List Str} {c : List Int}, c.length = ks.length → (c.map PyData.int).map W.d = lstA (List.zip ks c)
  | [], [], _ => rfl
  | [], _ :: _, h => by simp at h
  | _ :: _, [], h => by simp at h
  | k :: ks, x :: c, h => by
    have ih := lst_zip (ks := ks) (c := c) (by simpa using h)
    simp only [lstA, List.map_cons, List.zip_cons_cons] at ih ⊢
    rw [ih]
theorem idx_of : ∀ {ks : List Str} {a : Str}, a ∈ ks → ∃ i : Nat, ks[i]? = some a ∧ ∀ m z, m < i → ks[m]? = some z → z ≠ a
  | [], a, h => by simp at h
  | k :: ks, a, h => by
    by_cases e : k = a
    · exact ⟨0, by simp [e], fun m z hm => absurd hm (Nat.not_lt_zero m)⟩
    · have h2 : a ∈ ks := by
        rcases List.mem_cons.mp h with z | z
        · exact absurd z.symm e
        · exact z
      obtain ⟨i, h1, h3⟩ := idx_of h2
      refine ⟨i + 1, by simpa using h1, fun m z hm hz => ?_⟩
      cases m with
      | zero => simp at hz; rw [← hz]; exact e
      | succ m => exact h3 m z (by omega) (by simpa using hz)
theorem getA_at : ∀ {cs : Cts} {a : Str} {i : Nat}, (cs.map (·.1)).Nodup → (cs.map (·.1))[i]? = some a → ∃ p, cs[i]? = some p ∧ p.1 = a ∧ p.2 = getA cs a
  | [], a, i, _, h => by simp at h
  | p :: cs, a, 0, _, h => by
    simp at h
    subst h
    exact ⟨p, rfl, rfl, getA_head.symm⟩
  | p :: cs, a, i + 1, nd, h => by
    rw [List.map_cons, List.nodup_cons] at nd
    have h2 : (cs.map (·.1))[i]? = some a := by simpa using h
    obtain ⟨q, e1, e2, e3⟩ := getA_at nd.2 h2
    have ne : p.1 ≠ a := fun z => nd.1 (z ▸ List.mem_of_getElem? h2)
    exact ⟨q, by simpa using e1, e2, by rw [getA_tail ne]; exact e3⟩
theorem at_lst {cs : Cts} {a : Str} {i : Nat} (nd : (cs.map (·.1)).Nodup) (h : (cs.map (·.1))[i]? = some a) : atI (lstA cs) (i : Int) = some (.d (.int (getA cs a))) := by
  obtain ⟨p, e1, _, e3⟩ := getA_at nd h
  refine atI_nat ?_
  unfold lstA
  rw [List.getElem?_map, e1, ← e3]
  rfl
theorem ix_lst {cs : Cts} {a : Str} {i : Nat} (h : (cs.map (·.1))[i]? = some a) : ixN (lstA cs).length (i : Int) = some i := by
  have := (List.getElem?_eq_some_iff.mp h).1
  rw [List.length_map] at this
  have hl : i < (lstA cs).length := by unfold lstA; rw [List.length_map]; exact this
  unfold ixN
  simp
  omega
theorem set_lst : ∀ {cs : Cts} {a : Str} {i : Nat} (v : Int), (cs.map (·.1)).Nodup → (cs.map (·.1))[i]? = some a → (lstA cs).set i (.d (.int v)) = lstA (setA cs a v)
  | [], a, i, v, _, h => by simp at h
  | p :: cs, a, 0, v, nd, h => by
    simp at h
    subst h
    rw [List.map_cons, List.nodup_cons] at nd
    have e : setA cs p.1 v = cs := by
      unfold setA
      refine (List.map_congr_left fun q hq => ?_).trans (List.map_id cs)
      rw [if_neg fun z => nd.1 (by rw [← z]; exact List.mem_map.mpr ⟨q, hq, rfl⟩)]
      rfl
    show W.d (.int v) :: lstA cs = lstA ((if p.1 = p.1 then (p.1, v) else p) :: setA cs p.1 v)
    rw [e, if_pos rfl]
    rfl
  | p :: cs, a, i + 1, v, nd, h => by
    rw [List.map_cons, List.nodup_cons] at nd
    have h2 : (cs.map (·.1))[i]? = some a := by simpa using h
    have ne : p.1 ≠ a := fun z => nd.1 (z ▸ List.mem_of_getElem? h2)
    show W.d (.int p.2) :: (lstA cs).set i (.d (.int v)) = lstA ((if p.1 = a then (p.1, v) else p) :: setA cs a v)
    rw [if_neg ne, set_lst v nd.2 h2]
    rfl
theorem flat_names (ks : List Str) : (ks.map PyData.str).all flatD = true := by
  rw [List.all_eq_true]
  intro d hd
  obtain ⟨x, _, rfl⟩ := List.mem_map.mp hd
  rfl
theorem str_same (a : Str) : PyData.eqv (.str a) (.str a) = true := by simp [PyData.eqv]
theorem before_of {ks : List Str} {a : Str} {i : Nat} (h : ∀ m z, m < i → ks[m]? = some z → z ≠ a) (m : Nat) (z : PyData) (hm : m < i) (hz : (ks.map PyData.str)[m]? = some z) : PyData.eqv z (.str a) = false := by
  obtain ⟨x, hx, rfl⟩ := get_map hz
  have := h m x hm hx
  simpa [PyData.eqv] using this
end Z

/-! Z25: sorted(xs), xs + ys, xs[i:j] of cells; the answer a new cell where it will be changed. -/
namespace Z
open PySem PySem.Spec PyProof.Rows L2
section
variable {X : Cx} {a b e : Expr} {Γ : GS} {M : MS} {Φ : W → MS → Prop} {pos p : Pos}
theorem new_cell {F H : Hp} {ι : List Addr} {Q : VK} {vs : List V} {ds : List PyData} (R : Rep F H ι M) (r : AtAll F vs ds) (φ : Φ (.m M.length) (M ++ [.lst (ds.map .d)])) (hQ : ∀ z H', Post F ι H Φ z H' → Q z H') (q : Addr) (n : H q = none) : Q (.ref q) (upd H q (.lst vs)) := by
  obtain ⟨E, R'⟩ := R.new (o := .lst vs) (mo := .lst (ds.map .d)) n ⟨vs, rfl, RWs.of r⟩
  exact hQ _ _ (Post.ext E (Post.ret R' (RW.m (by rw [← R.len, List.getElem?_append_right (Nat.le_refl _)]; simp)) φ))
theorem zk_sortedM (hm : X.mg "sorted" = none) (h : ZE X e Γ M fun y M1 => ∃ ns : List Int, AllW y M1 (ns.map .int) ∧ (∀ ds, y ≠ .d (.tuple ds)) ∧ Φ (.m M1.length) (M1 ++ [.lst (((sortI ns).map PyData.int).map .d)])) (hg : Gl X "sorted" := by rfl) (sy : CSyn X e [] pos := by exact ⟨by rfl, by rfl⟩) :
    ZE X (.Call (.Name "sorted" p) [e] [] pos) Γ M Φ :=
  zb1 cr_sortedI hm bt_sorted hg h (fun F ι H M v y Q R rv ψ hQ => by
    obtain ⟨ns, hy, nt, φ⟩ := ψ
    obtain ⟨c, vs, rfl, hc, r⟩ := hy.at R rv
    have h1 := hc.resolve_right fun z => nt _ z.2
    rw [r.ints] at h1
    refine ⟨c, ns, rfl, .of h1, fun ns' q pm pw n => ?_⟩
    rw [sortI_of pm pw]
    exact new_cell R .of_ints φ hQ q n) sy
/-- a list, as data or as a cell of data -/
def LstW (y : W) (M : MS) (ds : List PyData) : Prop := y = .d (.list ds) ∨ ∃ j, y = .m j ∧ M[j]? = some (.lst (ds.map .d))
theorem LstW.at {F H : Hp} {ι : List Addr} {y : W} {v : V} {ds : List PyData} (R : Rep F H ι M) (r : RW F ι v y) (h : LstW y M ds) : ∃ c vs, v = .ref c ∧ H c = some (.lst vs) ∧ AtAll F vs ds := by
  rcases h with rfl | ⟨j, rfl, hj⟩
  · obtain ⟨c, vs, rfl, f, q⟩ := At.lst_ r
    exact ⟨c, vs, rfl, R.sub _ _ f, q⟩
  · obtain ⟨c, vs, rfl, _, h1, q⟩ := cell_at R r hj
    exact ⟨c, vs, rfl, h1, RWs.dat q⟩
theorem ze_addL (h : ZE X a Γ M fun x M1 => ZE X b Γ M1 fun y M2 => ∃ xs ys, LstW x M2 xs ∧ LstW y M2 ys ∧ xs.length + ys.length ≤ sizeLine ∧ Φ (.d (.list (xs ++ ys))) M2) : ZE X (.BinOp a .Add b pos) Γ M Φ :=
  z2 (pe_op op_cat pe_w pe_w) h fun F ι H M v u x y Q R rx ry ψ hQ => by
    obtain ⟨xs, ys, hx, hy, z, φ⟩ := ψ
    obtain ⟨c, vs, rfl, h1, r1⟩ := hx.at R rx
    obtain ⟨d, us, rfl, h2, r2⟩ := hy.at R ry
    exact ⟨c, d, vs, us, rfl, rfl, h1, h2, by rw [r1.len, r2.len]; exact z, lay_lst R (r1.app r2) φ hQ⟩
theorem ze_slM {lo hi : Option Expr} {p2 : Pos} (h : ZE X a Γ M fun x M1 => ZP X lo Γ M1 fun l M2 => ZP X hi Γ M2 fun u M3 => ∃ ds, LstW x M3 ds ∧ Φ (.m M3.length) (M3 ++ [.lst ((cutD ds l u).map .d)])) : ZE X (.Subscript a (.Slice lo hi none p2) pos) Γ M Φ := fun F ι σ H R S => by
  refine w_e (pe_slice sl_list pe_w po_w po_w) ((h F ι σ H R S).mono ?_)
  rintro v H1 ⟨F1, ι1, M1, x, E1, R1, rx, hl⟩
  intro pins s I
  obtain ⟨t1, p1, q1⟩ := hl F1 ι1 σ H1 R1 (E1.slots S)
  refine thn (p1.run pins s σ H1 _ I q1) ?_
  rintro u1 s1 ⟨o1, H2, I2, ip1, F2, ι2, M2, E2, R2, hu⟩
  refine ⟨o1, H2, I2, ip1, fun pins s I => ?_⟩
  obtain ⟨t2, p2, q2⟩ := hu F2 ι2 σ H2 R2 ((E1.trans E2).slots S)
  refine thn (p2.run pins s σ H2 _ I q2) ?_
  rintro u2 s2 ⟨o2, H3, I3, ip2, F3, ι3, M3, E3, R3, ds, hS, φ⟩
  refine ⟨o2, H3, I3, ip2, ?_⟩
  have rx3 := (E2.trans E3).rw rx
  obtain ⟨c, vs, rfl, h1, r⟩ := hS.at R3 rx3
  exact ⟨c, vs, rfl, .of h1, new_cell R3 (cut_rel r o1 o2) φ fun z H' q => Post.ext ((E1.trans E2).trans E3) q⟩
end
/-! ### the rows of each sort, each in a cell of its own -/
/-- what the deeds do to the rows -/
def setT (t : Tab) (a : Str) (v : List Int) : Tab := t.map fun p => if p.1 = a then (p.1, v) else p
def stepT (t : Tab) : Deed → Tab
  | .come a n => setT t a (sortI (getT t a ++ [n]))
  | .go a k => if k ≤ ((getT t a).length : Int) then setT t a ((getT t a).eraseIdx (((getT t a).length : Int) - k).toNat) else t
  | .keep a k => setT t a ((getT t a).drop (((getT t a).length : Int) - k).toNat)
  | .move a k b => if k ≤ ((getT t a).length : Int) then
      (let n := (getT t a).getD (((getT t a).length : Int) - k).toNat 0
       let t1 := setT t a ((getT t a).eraseIdx (((getT t a).length : Int) - k).toNat)
       setT t1 b (sortI (getT t1 b ++ [n]))) else t
  | .merge a b => setT (setT t b (sortI (getT t b ++ getT t a))) a []
def runT (t : Tab) (ds : List Deed) : Tab := ds.foldl stepT t
end Z

/-! Z26: a dict whose values are lists, each in a cell of its own. -/
namespace Z
open PySem PySem.Spec PyProof.Rows L2
theorem setT_keys (t : Tab) (a : Str) (v : List Int) : (setT t a v).map (·.1) = t.map (·.1) := by
  unfold setT
  rw [List.map_map]
  exact List.map_congr_left fun p _ => by
    show (if p.1 = a then (p.1, v) else p).1 = p.1
    split <;> rfl
theorem getT_head {p : Str × List Int} {t : Tab} : getT (p :: t) p.1 = p.2 := by simp [getT]
theorem getT_tail {p : Str × List Int} {t : Tab} {a : Str} (h : p.1 ≠ a) : getT (p :: t) a = getT t a := by simp [getT, h]
theorem getT_set : ∀ {t : Tab} {a b : Str} (v : List Int), a ∈ t.map (·.1) → getT (setT t a v) b = if b = a then v else getT t b
  | [], a, b, v, h => by simp at h
  | p :: t, a, b, v, h => by
    have e0 : setT (p :: t) a v = (if p.1 = a then (p.1, v) else p) :: setT t a v := rfl
    rw [e0]
    by_cases e : p.1 = a
    · rw [if_pos e]
      by_cases f : b = a
      · rw [if_pos f, f, ← e]
        exact getT_head (p := (p.1, v))
      · rw [if_neg f]
        have n : p.1 ≠ b := fun z => f (z.symm.trans e)
        rw [getT_tail (p := (p.1, v)) n, getT_tail n]
        by_cases g : a ∈ t.map (·.1)
        · rw [getT_set v g, if_neg f]
        · congr 1
          unfold setT
          refine (List.map_congr_left fun q hq => ?_).trans (List.map_id t)
          rw [if_neg fun z => g (by rw [← z]; exact List.mem_map.mpr ⟨q, hq, rfl⟩)]
          rfl
    · rw [if_neg e]
      have h2 : a ∈ t.map (·.1) := by
        rcases List.mem_cons.mp h with z | z
        · exact absurd z.symm e
        · exact z
      by_cases g : p.1 = b
      · subst g
        rw [getT_head, getT_head, if_neg e]
      · rw [getT_tail g, getT_tail g, getT_set v h2]
def encF (ks : List Str) (f : Str → Nat) : List (Key × W) := ks.map fun x => ((Sum.inr x : Key), W.m (f x))
def rowsW (v : List Int) : List W := (v.map PyData.int).map W.d
structure TabM (A M : MS) (t : Tab) (f : Str → Nat) (j : Nat) : Prop where
  pre : ∃ J, M = A ++ J
  aj : A.length ≤ j
  dic : M[j]? = some (.dic (encF (t.map (·.1)) f))
  inj : ∀ a ∈ t.map (·.1), ∀ b ∈ t.map (·.1), f a = f b → a = b
  cell : ∀ a ∈ t.map (·.1), (A.length ≤ f a ∧ f a ≠ j) ∧ M[f a]? = some (.lst (rowsW (getT t a)))
theorem look_encF (f : Str → Nat) : ∀ {ks : List Str} {a : Str}, a ∈ ks → lookK (encF ks f) (.inr a) = some (.m (f a))
  | [], a, h => by simp at h
  | k :: ks, a, h => by
    by_cases e : k = a
    · subst e
      simp [lookK, encF]
    · have h2 : a ∈ ks := by
        rcases List.mem_cons.mp h with z | z
        · exact absurd z.symm e
        · exact z
      have ih := look_encF f h2
      simp only [lookK, encF, List.map_cons, List.find?_cons] at ih ⊢
      rw [decide_eq_false fun z => e (Sum.inr.inj z)]
      exact ih
theorem put_encF {ks : List Str} {a : Str} {f : Str → Nat} {n : Nat} (h : a ∈ ks) : putW (encF ks f) (.inr a) (.m n) = encF ks (fun x => if x = a then n else f x) := by
  have e : ((encF ks f).any fun kv => decide (kv.1 = Sum.inr a)) = true := by
    rw [List.any_eq_true]
    exact ⟨_, List.mem_map.mpr ⟨a, h, rfl⟩, by simp⟩
  unfold putW
  rw [e, if_pos rfl]
  unfold encF
  rw [List.map_map]
  refine List.map_congr_left fun x _ => ?_
  show (if (Sum.inr x : Key) = Sum.inr a then _ else _) = ((Sum.inr x : Key), W.m (if x = a then n else f x))
  by_cases g : x = a
  · rw [if_pos (congrArg Sum.inr g), if_pos g]
  · rw [if_neg (fun z => g (Sum.inr.inj z)), if_neg g]
theorem TabM.more {A M : MS} {t : Tab} {f : Str → Nat} {j : Nat} (T : TabM A M t f j) (J : MS) : TabM A (M ++ J) t f j := by
  have up : ∀ {i : Nat} {x : MO}, M[i]? = some x → (M ++ J)[i]? = some x := fun h => by
    rw [List.getElem?_append_left (List.getElem?_eq_some_iff.mp h).1]; exact h
  obtain ⟨J0, e⟩ := T.pre
  exact ⟨⟨J0 ++ J, by rw [e, List.append_assoc]⟩, T.aj, up T.dic, T.inj, fun a ha => ⟨(T.cell a ha).1, up (T.cell a ha).2⟩⟩
theorem pre_set {A M : MS} {i : Nat} {x : MO} (h : ∃ J, M = A ++ J) (hi : A.length ≤ i) : ∃ J, M.set i x = A ++ J := by
  obtain ⟨J, rfl⟩ := h
  exact ⟨J.set (i - A.length) x, by rw [List.set_append_right _ _ hi]⟩
/-- a sort's rows are a new cell -/
theorem TabM.put {A M : MS} {t : Tab} {f : Str → Nat} {a : Str} {j : Nat} (T : TabM A M t f j) (ha : a ∈ t.map (·.1)) (v : List Int) :
    TabM A ((M ++ [MO.lst (rowsW v)]).set j (MO.dic (putW (encF (t.map (·.1)) f) (.inr a) (.m M.length)))) (setT t a v) (fun x => if x = a then M.length else f x) j := by
  have hA : j < M.length := (List.getElem?_eq_some_iff.mp T.dic).1
  have hf : ∀ b ∈ t.map (·.1), f b < M.length := fun b hb => (List.getElem?_eq_some_iff.mp (T.cell b hb).2).1
  refine ⟨pre_set (T.more _).pre T.aj, T.aj, ?_, ?_, ?_⟩
  · rw [List.getElem?_set_self (by rw [List.length_append]; omega), put_encF ha, setT_keys]
  · rw [setT_keys]
    intro b hb c hc e
    by_cases g : b = a
    · by_cases k : c = a
      · rw [g, k]
      · simp only [g, if_true, if_neg k] at e
        exact absurd (hf c hc) (by omega)
    · by_cases k : c = a
      · simp only [k, if_true, if_neg g] at e
        exact absurd (hf b hb) (by omega)
      · simp only [if_neg g, if_neg k] at e
        exact T.inj b hb c hc e
  · rw [setT_keys]
    intro b hb
    by_cases g : b = a
    · subst g
      simp only [if_true]
      have := T.aj
      refine ⟨⟨by omega, by omega⟩, ?_⟩
      rw [List.getElem?_set_ne (by omega), getT_set v ha, if_pos rfl]
      exact at_end M _
    · simp only [if_neg g]
      obtain ⟨h1, h2⟩ := T.cell b hb
      refine ⟨h1, ?_⟩
      rw [List.getElem?_set_ne (Ne.symm h1.2), getT_set v ha, if_neg g, List.getElem?_append_left (hf b hb)]
      exact h2
/-- a sort's rows are changed in their cell -/
theorem TabM.pop {A M : MS} {t : Tab} {f : Str → Nat} {a : Str} {j : Nat} (T : TabM A M t f j) (ha : a ∈ t.map (·.1)) (v : List Int) : TabM A (M.set (f a) (.lst (rowsW v))) (setT t a v) f j := by
  have ⟨h1, h2⟩ := T.cell a ha
  refine ⟨pre_set T.pre h1.1, T.aj, ?_, by rw [setT_keys]; exact T.inj, ?_⟩
  · rw [List.getElem?_set_ne h1.2, setT_keys]
    exact T.dic
  · rw [setT_keys]
    intro b hb
    obtain ⟨h3, h4⟩ := T.cell b hb
    refine ⟨h3, ?_⟩
    by_cases g : b = a
    · subst g
      rw [cell_set h2, getT_set v ha, if_pos rfl]
    · rw [List.getElem?_set_ne (fun z => g (T.inj b hb a ha z.symm)), getT_set v ha, if_neg g]
      exact h4
theorem stepT_keys (t : Tab) (d : Deed) : (stepT t d).map (·.1) = t.map (·.1) := by
  cases d with
  | come a n => exact setT_keys ..
  | go a k =>
    show (if _ then _ else t : Tab).map (·.1) = _
    split
    · exact setT_keys ..
    · rfl
  | keep a k => exact setT_keys ..
  | move a k b =>
    show (if _ then _ else t : Tab).map (·.1) = _
    split
    · rw [setT_keys, setT_keys]
    · rfl
  | merge a b =>
    show (setT (setT t b _) a _).map (·.1) = _
    rw [setT_keys, setT_keys]
theorem runT_keys : ∀ (ds : List Deed) (t : Tab), (runT t ds).map (·.1) = t.map (·.1)
  | [], _ => rfl
  | d :: ds, t => (runT_keys ds _).trans (stepT_keys t d)
/-- what do_deed promises: A the caller's cells, the table behind them -/
def doS : ZSp := fun ws M Φ => ∃ (A : MS) (t : Tab) (f : Str → Nat) (j : Nat) (d : Deed), ws = [.m j, .d (deedD d)] ∧ TabM A M t f j ∧ InN (t.map (·.1)) d ∧ (∀ p ∈ t, p.2.length < 4000000) ∧ t.length < 100 ∧ (∀ p ∈ t, p.2.length < 4000000) ∧
  (∀ a k, d = .keep a k → 0 ≤ k) ∧ (∀ a k, d = .go a k → 1 ≤ k) ∧ (∀ a k b, d = .move a k b → 1 ≤ k) ∧ ∀ M' f', TabM A M' (stepT t d) f' j → Φ (.d .none) M'
def doneS : ZSp := fun ws M Φ => ∃ (h : List HRow) (t : Tab) (ds : List Deed), ws = [.d (houseD h), .d (tabD t), .d (scriptD ds)] ∧ HouseOk h ∧ (t.map (·.1)).Perm (sorts h) ∧ (∀ p ∈ t, p.2.length ≤ 40) ∧ ds.length ≤ 16 ∧ (∀ d ∈ ds, ∃ pool, DeedOk (sorts h) pool d) ∧
  ∀ ks : List Str, ks.Perm (sorts h) → Φ (.d (tabD (ks.map fun a => (a, getT (runT (h.map fun r => (r.name, getT t r.name)) ds) a)))) M
end Z

/-! Z27: small help for rows. -/
namespace Z
open PySem PySem.Spec PyProof.Rows L2
theorem cut_drop {α : Type} (xs : List α) {n : Int} (h : 0 ≤ n) : cutD xs (some n) none = xs.drop n.toNat := by
  unfold cutD
  rw [sx h, HT.sIx_none]
  by_cases k : n.toNat ≤ xs.length
  · rw [Nat.min_eq_left k, List.take_of_length_le (by rw [List.length_drop]; exact Nat.le_refl _)]
  · rw [Nat.min_eq_right (by omega), List.drop_of_length_le (Nat.le_refl _), List.drop_of_length_le (by omega), List.take_nil]
theorem rowsW_len (v : List Int) : (rowsW v).length = v.length := by unfold rowsW; rw [List.length_map, List.length_map]
theorem rowsW_get {v : List Int} {i : Nat} (h : i < v.length) : (rowsW v)[i]? = some (.d (.int (v.getD i 0))) := by
  unfold rowsW
  rw [List.getElem?_map, List.getElem?_map, List.getElem?_eq_getElem h, List.getD_eq_getElem?_getD, List.getElem?_eq_getElem h]
  rfl
theorem rowsW_erase : ∀ (v : List Int) (i : Nat), (rowsW v).eraseIdx i = rowsW (v.eraseIdx i)
  | [], _ => rfl
  | _ :: _, 0 => rfl
  | x :: v, i + 1 => congrArg (W.d (.int x) :: ·) (rowsW_erase v i)
theorem getT_short {t : Tab} {a : Str} {n : Nat} (h : a ∈ t.map (·.1)) (hl : ∀ p ∈ t, p.2.length < n) : (getT t a).length < n := by
  unfold getT
  cases e : t.find? fun p => decide (p.1 = a) with
  | none =>
    obtain ⟨p, hp, rfl⟩ := List.mem_map.mp h
    have := List.find?_eq_none.mp e p hp
    simp at this
  | some p => exact hl p (List.mem_of_find?_eq_some e)
theorem encF_len (ks : List Str) (f : Str → Nat) : (encF ks f).length = ks.length := List.length_map _
theorem setT_mem {t : Tab} {a b : Str} {v : List Int} (h : b ∈ t.map (·.1)) : b ∈ (setT t a v).map (·.1) := by rw [setT_keys]; exact h
theorem setT_len (t : Tab) (a : Str) (v : List Int) : (setT t a v).length = t.length := List.length_map _
theorem ix_of {i : Int} {n : Nat} (h0 : 0 ≤ i) (h1 : i < n) : seqIndex? i n = some i.toNat := by
  have : ixN n i = some i.toNat := by
    unfold ixN
    rw [if_pos h0, if_pos h1]
  exact (ixN_seq this).1
end Z

/-! Z28: a dict of fresh lists, as done makes it; how long the rows may grow. -/
namespace Z
open PySem PySem.Spec PyProof.Rows L2
structure RowsM (A M : MS) (g : Str → List Int) (ks : List Str) (f : Str → Nat) : Prop where
  pre : ∃ J, M = A ++ J
  inj : ∀ a ∈ ks, ∀ b ∈ ks, f a = f b → a = b
  cell : ∀ a ∈ ks, A.length ≤ f a ∧ M[f a]? = some (.lst (rowsW (g a)))
theorem put_new {ks : List Str} {a : Str} {f : Str → Nat} {n : Nat} (h : a ∉ ks) : putW (encF ks f) (.inr a) (.m n) = encF (ks ++ [a]) (fun x => if x = a then n else f x) := by
  have e : ((encF ks f).any fun kv => decide (kv.1 = Sum.inr a)) = false := by
    rw [List.any_eq_false]
    intro kv hkv z
    obtain ⟨x, hx, rfl⟩ := List.mem_map.mp hkv
    exact h (Sum.inr.inj (of_decide_eq_true z) ▸ hx)
  unfold putW
  rw [e, if_neg Bool.false_ne_true]
  unfold encF
  rw [List.map_append]
  congr 1
  · refine List.map_congr_left fun x hx => ?_
    show (Sum.inr x, W.m (f x)) = ((Sum.inr x : Key), W.m (if x = a then n else f x))
    rw [if_neg fun z : x = a => h (z ▸ hx)]
  · simp
theorem RowsM.snoc {A M : MS} {g : Str → List Int} {ks : List Str} {f : Str → Nat} {a : Str} (R : RowsM A M g ks f) (h : a ∉ ks) : RowsM A (M ++ [MO.lst (rowsW (g a))]) g (ks ++ [a]) (fun x => if x = a then M.length else f x) := by
  have hf : ∀ b ∈ ks, f b < M.length := fun b hb => (List.getElem?_eq_some_iff.mp (R.cell b hb).2).1
  obtain ⟨J, eJ⟩ := R.pre
  have hA : A.length ≤ M.length := by rw [eJ, List.length_append]; omega
  refine ⟨⟨J ++ [MO.lst (rowsW (g a))], by rw [eJ, List.append_assoc]⟩, fun b hb c hc e => ?_, fun b hb => ?_⟩
  · rcases List.mem_append.mp hb with hb | hb
    · have nb : b ≠ a := fun z => h (z ▸ hb)
      rcases List.mem_append.mp hc with hc | hc
      · have nc : c ≠ a := fun z => h (z ▸ hc)
        simp only [if_neg nb, if_neg nc] at e
        exact R.inj b hb c hc e
      · have ec := List.mem_singleton.mp hc
        simp only [if_neg nb, ec, if_true] at e
        exact absurd (hf b hb) (by omega)
    · have eb := List.mem_singleton.mp hb
      rcases List.mem_append.mp hc with hc | hc
      · have nc : c ≠ a := fun z => h (z ▸ hc)
        simp only [eb, if_true, if_neg nc] at e
        exact absurd (hf c hc) (by omega)
      · rw [eb, List.mem_singleton.mp hc]
  · rcases List.mem_append.mp hb with hb | hb
    · have nb : b ≠ a := fun z => h (z ▸ hb)
      simp only [if_neg nb]
      refine ⟨(R.cell b hb).1, ?_⟩
      rw [List.getElem?_append_left (hf b hb)]
      exact (R.cell b hb).2
    · have eb := List.mem_singleton.mp hb
      subst eb
      simp only [if_true]
      exact ⟨hA, at_end M _⟩
/-- the dict is a cell behind its lists -/
theorem RowsM.tab {A M : MS} {t : Tab} {f : Str → Nat} {ks : List Str} {g : Str → List Int} (R : RowsM A M g ks f) (hk : t.map (·.1) = ks) (hg : ∀ a ∈ ks, getT t a = g a) : TabM A (M ++ [MO.dic (encF ks f)]) t f M.length := by
  obtain ⟨J, eJ⟩ := R.pre
  refine ⟨⟨J ++ [MO.dic (encF ks f)], by rw [eJ, List.append_assoc]⟩, by rw [eJ, List.length_append]; omega, by rw [hk]; exact at_end M _, by rw [hk]; exact R.inj, ?_⟩
  rw [hk]
  intro a ha
  have lt := (List.getElem?_eq_some_iff.mp (R.cell a ha).2).1
  refine ⟨⟨(R.cell a ha).1, Nat.ne_of_lt lt⟩, ?_⟩
  rw [List.getElem?_append_left lt, hg a ha]
  exact (R.cell a ha).2
theorem setT_bd {t : Tab} {a : Str} {v : List Int} {B : Nat} (h : ∀ p ∈ t, p.2.length ≤ B) (hv : v.length ≤ B) : ∀ p ∈ setT t a v, p.2.length ≤ B := fun p hp => by
  obtain ⟨q, hq, rfl⟩ := List.mem_map.mp hp
  split
  · exact hv
  · exact h q hq
theorem getT_bd {t : Tab} {a : Str} {B : Nat} (h : ∀ p ∈ t, p.2.length ≤ B) : (getT t a).length ≤ B := by
  unfold getT
  cases e : t.find? fun p => decide (p.1 = a) with
  | none => exact Nat.zero_le _
  | some p => exact h p (List.mem_of_find?_eq_some e)
theorem sortI_len (v : List Int) : (sortI v).length = v.length := (sortI_perm v).length_eq
theorem stepT_bd {t : Tab} {B : Nat} (h : ∀ p ∈ t, p.2.length ≤ B) (d : Deed) : ∀ p ∈ stepT t d, p.2.length ≤ 2 * B + 1 := by
  have h2 : ∀ p ∈ t, p.2.length ≤ 2 * B + 1 := fun p hp => by have := h p hp; omega
  have ga : ∀ a, (getT t a).length ≤ B := fun a => getT_bd h
  have er : ∀ (v : List Int) i, (v.eraseIdx i).length ≤ v.length := fun v i => List.length_eraseIdx_le v i
  cases d with
  | come a n => exact setT_bd h2 (by rw [sortI_len, List.length_append]; have := ga a; simp; omega)
  | go a k =>
    show ∀ p ∈ (if k ≤ ((getT t a).length : Int) then setT t a ((getT t a).eraseIdx (((getT t a).length : Int) - k).toNat) else t), p.2.length ≤ 2 * B + 1
    split
    · exact setT_bd h2 (by have := er (getT t a) (((getT t a).length : Int) - k).toNat; have := ga a; omega)
    · exact h2
  | keep a k => exact setT_bd h2 (by rw [List.length_drop]; have := ga a; omega)
  | move a k b =>
    by_cases hk : k ≤ ((getT t a).length : Int)
    rotate_left
    · have e : stepT t (.move a k b) = t := if_neg hk
      rw [e]
      exact h2
    have e : stepT t (.move a k b) = _ := if_pos hk
    rw [e]
    · have h3 : ∀ p ∈ setT t a ((getT t a).eraseIdx (((getT t a).length : Int) - k).toNat), p.2.length ≤ B := setT_bd h (by have := er (getT t a) (((getT t a).length : Int) - k).toNat; have := ga a; omega)
      exact setT_bd (fun p hp => by have := h3 p hp; omega) (by rw [sortI_len, List.length_append]; have := getT_bd (a := b) h3; simp; omega)
  | merge a b => exact setT_bd (setT_bd h2 (by rw [sortI_len, List.length_append]; have := ga a; have := ga b; omega)) (by simp)
theorem runT_snoc (t : Tab) (ds : List Deed) (d : Deed) : runT t (ds ++ [d]) = stepT (runT t ds) d := by
  unfold runT
  rw [List.foldl_append]
  rfl
theorem runT_bd {t : Tab} (h : ∀ p ∈ t, p.2.length ≤ 40) : ∀ (n : Nat) (ds : List Deed), ds.length = n → ∀ p ∈ runT t ds, p.2.length ≤ 41 * 2 ^ n - 1 := by
  intro n
  induction n with
  | zero =>
    intro ds e p hp
    rw [List.eq_nil_of_length_eq_zero e] at hp
    have := h p hp
    omega
  | succ n ih =>
    intro ds e p hp
    obtain ⟨ds', d, rfl⟩ : ∃ ds' d, ds = ds' ++ [d] := by
      have ne : ds ≠ [] := fun z => by rw [z] at e; simp at e
      exact ⟨ds.dropLast, ds.getLast ne, (List.dropLast_concat_getLast ne).symm⟩
    rw [runT_snoc] at hp
    have := stepT_bd (ih ds' (by rw [List.length_append] at e; simpa using e)) d p hp
    have pos : 1 ≤ 2 ^ n := Nat.one_le_two_pow
    rw [Nat.pow_succ]
    omega
end Z

/-! Z29: help for done. -/
namespace Z
open PySem PySem.Spec PyProof.Rows L2
theorem put_app {α : Type} {kvs : List (Key × α)} {k : Key} {v : α} (h : ∀ kv ∈ kvs, kv.1 ≠ k) : putW kvs k v = kvs ++ [(k, v)] := by
  have e : (kvs.any fun kv => decide (kv.1 = k)) = false := by
    rw [List.any_eq_false]
    exact fun kv hkv z => h kv hkv (of_decide_eq_true z)
  unfold putW
  rw [e, if_neg Bool.false_ne_true]
theorem take_fresh {ks : List Str} {i : Nat} {a : Str} (nd : ks.Nodup) (h : ks[i]? = some a) : a ∉ ks.take i := fun m => by
  have e : ks = ks.take i ++ ks.drop i := (List.take_append_drop i ks).symm
  rw [e, List.nodup_append] at nd
  obtain ⟨hi, hv⟩ := List.getElem?_eq_some_iff.mp h
  exact nd.2.2 a m a (by rw [List.drop_eq_getElem_cons hi, hv]; exact List.mem_cons_self) rfl
abbrev startT (h : List HRow) (t : Tab) : Tab := h.map fun r => (r.name, getT t r.name)
theorem startT_keys (h : List HRow) (t : Tab) : (startT h t).map (·.1) = sorts h := by
  unfold startT sorts
  rw [List.map_map]
  rfl
theorem startT_get : ∀ {h : List HRow} {t : Tab} {a : Str}, a ∈ sorts h → getT (startT h t) a = getT t a
  | [], t, a, m => by simp [sorts] at m
  | r :: h, t, a, m => by
    by_cases e : r.name = a
    · subst e
      exact getT_head (p := (r.name, getT t r.name)) (t := startT h t)
    · have m2 : a ∈ sorts h := by
        rcases List.mem_cons.mp m with z | z
        · exact absurd z.symm e
        · exact z
      exact (getT_tail (p := (r.name, getT t r.name)) (t := startT h t) e).trans (startT_get m2)
theorem startT_bd {h : List HRow} {t : Tab} {B : Nat} (hb : ∀ p ∈ t, p.2.length ≤ B) : ∀ p ∈ startT h t, p.2.length ≤ B := fun p hp => by
  obtain ⟨r, _, rfl⟩ := List.mem_map.mp hp
  exact getT_bd hb
end Z

/-! Z30: the plain law: counting before or behind the deeds. -/
namespace Z
open PySem PySem.Spec PyProof.Rows L2
theorem split_sorted (num : Int) : ∀ v : List Int, v.Pairwise (· ≤ ·) → ∃ lo hi, v = lo ++ hi ∧ (∀ x ∈ lo, x < num) ∧ ∀ x ∈ hi, num ≤ x
  | [], _ => ⟨[], [], rfl, by simp, by simp⟩
  | x :: v, h => by
    rw [List.pairwise_cons] at h
    by_cases e : num ≤ x
    · refine ⟨[], x :: v, rfl, by simp, fun y hy => ?_⟩
      rcases List.mem_cons.mp hy with rfl | hy
      · exact e
      · exact Int.le_trans e (h.1 y hy)
    · obtain ⟨lo, hi, rfl, h1, h2⟩ := split_sorted num v h.2
      refine ⟨x :: lo, hi, rfl, fun y hy => ?_, h2⟩
      rcases List.mem_cons.mp hy with rfl | hy
      · omega
      · exact h1 y hy
theorem cnt_app (num : Int) (a b : List Int) : cnt num (a ++ b) = cnt num a + cnt num b := by
  unfold cnt
  rw [List.filter_append, List.length_append]
  omega
theorem cnt_perm {num : Int} {a b : List Int} (p : a.Perm b) : cnt num a = cnt num b := by
  unfold cnt
  rw [(p.filter _).length_eq]
theorem cnt_lo {num : Int} {a : List Int} (h : ∀ x ∈ a, x < num) : cnt num a = 0 := by
  unfold cnt
  rw [List.filter_eq_nil_iff.mpr (fun x hx => by have := h x hx; simp; omega)]
  rfl
theorem cnt_hi {num : Int} {a : List Int} (h : ∀ x ∈ a, num ≤ x) : cnt num a = (a.length : Int) := by
  unfold cnt
  rw [List.filter_eq_self.mpr (fun x hx => by have := h x hx; simp; omega)]
theorem cnt_one (num n : Int) : cnt num [n] = if decide (num ≤ n) = true then 1 else 0 := by
  unfold cnt
  by_cases e : num ≤ n
  · simp [e]
  · simp [e]
theorem cnt_sort (num : Int) (v : List Int) : cnt num (sortI v) = cnt num v := cnt_perm (sortI_perm v)
/-- the last of rising rows -/
theorem cnt_drop {num : Int} {v : List Int} (h : v.Pairwise (· ≤ ·)) {k : Int} (hk : 0 ≤ k) : cnt num (v.drop ((v.length : Int) - k).toNat) = if k < cnt num v then k else cnt num v := by
  obtain ⟨lo, hi, rfl, h1, h2⟩ := split_sorted num v h
  rw [cnt_app num lo hi, cnt_lo h1, cnt_hi h2, List.drop_append, cnt_app, cnt_lo fun x hx => h1 x (List.mem_of_mem_drop hx), cnt_hi fun x hx => h2 x (List.mem_of_mem_drop hx), List.length_drop, List.length_append]
  split <;> omega
/-- one of rising rows is taken out -/
theorem cnt_pop {num : Int} {v : List Int} (h : v.Pairwise (· ≤ ·)) {k : Int} (k1 : 1 ≤ k) (k2 : k ≤ (v.length : Int)) :
    cnt num (v.eraseIdx ((v.length : Int) - k).toNat) = (if k ≤ cnt num v then cnt num v - 1 else cnt num v) ∧ (num ≤ v.getD ((v.length : Int) - k).toNat 0 ↔ k ≤ cnt num v) := by
  have hi : ((v.length : Int) - k).toNat < v.length := by omega
  have e1 : cnt num v = cnt num (v.eraseIdx ((v.length : Int) - k).toNat) + cnt num [v.getD ((v.length : Int) - k).toNat 0] := by
    rw [← cnt_app]
    refine cnt_perm ?_
    have p := List.perm_append_comm (l₁ := v.eraseIdx ((v.length : Int) - k).toNat) (l₂ := [v.getD ((v.length : Int) - k).toNat 0])
    refine List.Perm.trans ?_ p.symm
    rw [List.getD_eq_getElem?_getD, List.getElem?_eq_getElem hi]
    exact (erase_perm v _ _ (List.getElem?_eq_getElem hi)).symm
  have e2 : num ≤ v.getD ((v.length : Int) - k).toNat 0 ↔ k ≤ cnt num v := by
    obtain ⟨lo, hi', rfl, h1, h2⟩ := split_sorted num v h
    rw [cnt_app, cnt_lo h1, cnt_hi h2]
    clear e1
    generalize hm : (((lo ++ hi').length : Int) - k).toNat = m at hi ⊢
    rw [List.length_append] at hm hi k2
    rw [List.getD_eq_getElem?_getD, List.getElem?_append]
    by_cases c : m < lo.length
    · rw [if_pos c, List.getElem?_eq_getElem c]
      have := h1 _ (List.getElem_mem c)
      simp only [Option.getD_some]
      omega
    · have c2 : m - lo.length < hi'.length := by omega
      rw [if_neg c, List.getElem?_eq_getElem c2]
      have := h2 _ (List.getElem_mem c2)
      simp only [Option.getD_some]
      omega
  refine ⟨?_, e2⟩
  rw [cnt_one] at e1
  by_cases c : k ≤ cnt num v
  · rw [if_pos c]
    rw [decide_eq_true (e2.mpr c), if_pos rfl] at e1
    omega
  · rw [if_neg c]
    rw [decide_eq_false (fun z => c (e2.mp z)), if_neg Bool.false_ne_true] at e1
    omega
end Z

/-! Z31: a deed on the counts is the deed on the rows, counted. -/
namespace Z
open PySem PySem.Spec PyProof.Rows L2
def cntT (num : Int) (t : Tab) : Cts := t.map fun p => (p.1, cnt num p.2)
theorem cntT_keys (num : Int) (t : Tab) : (cntT num t).map (·.1) = t.map (·.1) := by
  unfold cntT
  rw [List.map_map]
  rfl
theorem getA_cntT {num : Int} : ∀ {t : Tab} {a : Str}, a ∈ t.map (·.1) → getA (cntT num t) a = cnt num (getT t a)
  | [], a, h => by simp at h
  | p :: t, a, h => by
    by_cases e : p.1 = a
    · subst e
      rw [getT_head]
      exact getA_head (p := (p.1, cnt num p.2)) (cs := cntT num t)
    · have h2 : a ∈ t.map (·.1) := by
        rcases List.mem_cons.mp h with z | z
        · exact absurd z.symm e
        · exact z
      rw [getT_tail e]
      exact (getA_tail (p := (p.1, cnt num p.2)) (cs := cntT num t) e).trans (getA_cntT h2)
theorem setA_cntT (num : Int) (t : Tab) (a : Str) (v : List Int) : setA (cntT num t) a (cnt num v) = cntT num (setT t a v) := by
  unfold setA cntT setT
  rw [List.map_map, List.map_map]
  refine List.map_congr_left fun p _ => ?_
  show (if p.1 = a then (p.1, cnt num v) else (p.1, cnt num p.2)) = ((if p.1 = a then (p.1, v) else p).1, cnt num (if p.1 = a then (p.1, v) else p).2)
  split <;> rfl
theorem setA_same {cs : Cts} {a : Str} (nd : (cs.map (·.1)).Nodup) (h : a ∈ cs.map (·.1)) : setA cs a (getA cs a) = cs := by
  unfold setA
  refine (List.map_congr_left fun p hp => ?_).trans (List.map_id cs)
  by_cases e : p.1 = a
  · rw [if_pos e]
    obtain ⟨i, hi, hv⟩ := List.getElem_of_mem hp
    have h1 : cs[i]? = some p := by rw [List.getElem?_eq_getElem hi, hv]
    obtain ⟨q, e1, e2, e3⟩ := getA_at nd (show (cs.map (·.1))[i]? = some a by rw [List.getElem?_map, h1, ← e]; rfl)
    rw [h1] at e1
    cases e1
    rw [← e3]
    rfl
  · rw [if_neg e]
    rfl
/-- rising rows everywhere -/
def Rising (t : Tab) : Prop := ∀ p ∈ t, p.2.Pairwise (· ≤ ·)
theorem Rising.get {t : Tab} {a : Str} (h : Rising t) : (getT t a).Pairwise (· ≤ ·) := by
  unfold getT
  cases e : t.find? fun p => decide (p.1 = a) with
  | none => exact List.Pairwise.nil
  | some p => exact h p (List.mem_of_find?_eq_some e)
theorem Rising.set {t : Tab} {a : Str} {v : List Int} (h : Rising t) (hv : v.Pairwise (· ≤ ·)) : Rising (setT t a v) := fun p hp => by
  obtain ⟨q, hq, rfl⟩ := List.mem_map.mp hp
  split
  · exact hv
  · exact h q hq
theorem Rising.erase {v : List Int} (h : v.Pairwise (· ≤ ·)) (i : Nat) : (v.eraseIdx i).Pairwise (· ≤ ·) := h.sublist (List.eraseIdx_sublist v i)
theorem Rising.step {t : Tab} (h : Rising t) (d : Deed) : Rising (stepT t d) := by
  cases d with
  | come a n => exact h.set (sortI_pw _)
  | go a k =>
    show Rising (if k ≤ ((getT t a).length : Int) then setT t a ((getT t a).eraseIdx (((getT t a).length : Int) - k).toNat) else t)
    split
    · exact h.set (Rising.erase h.get _)
    · exact h
  | keep a k => exact h.set (h.get.sublist (List.drop_sublist _ _))
  | move a k b =>
    by_cases hk : k ≤ ((getT t a).length : Int)
    · have e : stepT t (.move a k b) = _ := if_pos hk
      rw [e]
      exact (h.set (Rising.erase h.get _)).set (sortI_pw _)
    · have e : stepT t (.move a k b) = t := if_neg hk
      rw [e]
      exact h
  | merge a b => exact (h.set (sortI_pw _)).set List.Pairwise.nil
theorem cnt_nn (num : Int) (v : List Int) : 0 ≤ cnt num v := Int.natCast_nonneg _
theorem cnt_le (num : Int) (v : List Int) : cnt num v ≤ (v.length : Int) := by
  unfold cnt
  exact_mod_cast List.length_filter_le _ _
/-- THE LAW of one deed -/
theorem step_law {num : Int} {t : Tab} {d : Deed} {names : List Str} {pool : List Int} (nd : (t.map (·.1)).Nodup) (hr : Rising t) (hk : t.map (·.1) = names) (ok : DeedOk names pool d) : stepA num (cntT num t) d = cntT num (stepT t d) := by
  subst hk
  have mem : ∀ {a}, a ∈ t.map (·.1) → a ∈ (cntT num t).map (·.1) := fun h => by rw [cntT_keys]; exact h
  have ndc : ((cntT num t).map (·.1)).Nodup := by rw [cntT_keys]; exact nd
  cases d with
  | come a n =>
    have ha := ok.1
    show setA (cntT num t) a (getA (cntT num t) a + if decide (num ≤ n) = true then 1 else 0) = cntT num (setT t a (sortI (getT t a ++ [n])))
    rw [getA_cntT ha, ← setA_cntT, cnt_sort, cnt_app, cnt_one]
  | go a k =>
    obtain ⟨ha, k1, _⟩ := ok
    show (if k ≤ getA (cntT num t) a then setA (cntT num t) a (getA (cntT num t) a - 1) else cntT num t) = cntT num (if k ≤ ((getT t a).length : Int) then setT t a ((getT t a).eraseIdx (((getT t a).length : Int) - k).toNat) else t)
    have le := cnt_le num (getT t a)
    by_cases c : k ≤ ((getT t a).length : Int)
    · have q := (cnt_pop (num := num) hr.get k1 c).1
      rw [if_pos c, ← setA_cntT, q, getA_cntT ha]
      split
      · rfl
      · rw [← getA_cntT ha, setA_same ndc (mem ha)]
    · rw [if_neg c, if_neg (by rw [getA_cntT ha]; omega)]
  | keep a k =>
    obtain ⟨ha, k0, _⟩ := ok
    show setA (cntT num t) a (if k < getA (cntT num t) a then k else getA (cntT num t) a) = cntT num (setT t a ((getT t a).drop (((getT t a).length : Int) - k).toNat))
    rw [← setA_cntT, cnt_drop hr.get k0, getA_cntT ha]
  | move a k b =>
    obtain ⟨ha, k1, _, hb, hab⟩ := ok
    have le := cnt_le num (getT t a)
    by_cases c : k ≤ ((getT t a).length : Int)
    · have q := cnt_pop (num := num) hr.get k1 c
      have e : stepT t (.move a k b) = _ := if_pos c
      rw [e, ← setA_cntT, ← setA_cntT, q.1, cnt_sort, cnt_app, cnt_one, getT_set _ ha, if_neg (Ne.symm hab)]
      show (if k ≤ getA (cntT num t) a then setA (setA (cntT num t) a (getA (cntT num t) a - 1)) b (getA (setA (cntT num t) a (getA (cntT num t) a - 1)) b + 1) else cntT num t) = _
      rw [getA_set _ (mem ha), if_neg (Ne.symm hab), getA_cntT ha, getA_cntT hb]
      by_cases f : k ≤ cnt num (getT t a)
      · rw [if_pos f, if_pos f, decide_eq_true (q.2.mpr f), if_pos rfl]
      · rw [if_neg f, if_neg f, decide_eq_false (fun z => f (q.2.mp z)), if_neg Bool.false_ne_true, Int.add_zero, ← getA_cntT ha, setA_same ndc (mem ha), ← getA_cntT hb, setA_same ndc (mem hb)]
    · have e : stepT t (.move a k b) = t := if_neg c
      rw [e]
      exact if_neg (by rw [getA_cntT ha]; omega)
  | merge a b =>
    obtain ⟨ha, hb, hab⟩ := ok
    show setA (setA (cntT num t) b (getA (cntT num t) b + getA (cntT num t) a)) a 0 = cntT num (setT (setT t b (sortI (getT t b ++ getT t a))) a [])
    rw [← setA_cntT, ← setA_cntT, cnt_sort, cnt_app, getA_cntT ha, getA_cntT hb]
    rfl
theorem run_law {num : Int} {names : List Str} {pool : List Int} : ∀ (ds : List Deed) {t : Tab}, (t.map (·.1)).Nodup → Rising t → t.map (·.1) = names → (∀ d ∈ ds, DeedOk names pool d) → runA num (cntT num t) ds = cntT num (runT t ds)
  | [], _, _, _, _, _ => rfl
  | d :: ds, t, nd, hr, hk, ok => by
    show runA num (stepA num (cntT num t) d) ds = cntT num (runT (stepT t d) ds)
    rw [step_law nd hr hk (ok d List.mem_cons_self)]
    exact run_law ds (by rw [stepT_keys]; exact nd) (hr.step d) (by rw [stepT_keys]; exact hk) fun e he => ok e (List.mem_cons_of_mem _ he)
end Z

/-! Z32: more counts give more counts. -/
namespace Z
open PySem PySem.Spec PyProof.Rows L2
/-- the same names, each count at most the other's -/
def Below (cs cs' : Cts) : Prop := cs.map (·.1) = cs'.map (·.1) ∧ ∀ a ∈ cs.map (·.1), getA cs a ≤ getA cs' a
theorem Below.set {cs cs' : Cts} {a : Str} {v v' : Int} (h : Below cs cs') (ha : a ∈ cs.map (·.1)) (hv : v ≤ v') : Below (setA cs a v) (setA cs' a v') := by
  refine ⟨by rw [setA_keys, setA_keys]; exact h.1, fun b hb => ?_⟩
  rw [setA_keys] at hb
  rw [getA_set v ha, getA_set v' (by rw [← h.1]; exact ha)]
  split
  · exact hv
  · exact h.2 b hb
theorem Below.step {cs cs' : Cts} {d : Deed} {num : Int} (h : Below cs cs') (hd : InN (cs.map (·.1)) d) : Below (stepA num cs d) (stepA num cs' d) := by
  have mem' : ∀ {a}, a ∈ cs.map (·.1) → a ∈ cs'.map (·.1) := fun ha => by rw [← h.1]; exact ha
  cases d with
  | come a n =>
    have ha : a ∈ cs.map (·.1) := hd
    exact h.set ha (by have := h.2 a ha; omega)
  | go a k =>
    have ha : a ∈ cs.map (·.1) := hd
    have l := h.2 a ha
    show Below (if k ≤ getA cs a then setA cs a (getA cs a - 1) else cs) (if k ≤ getA cs' a then setA cs' a (getA cs' a - 1) else cs')
    by_cases c : k ≤ getA cs a
    · rw [if_pos c, if_pos (by omega)]
      exact h.set ha (by omega)
    · rw [if_neg c]
      split
      · refine ⟨by rw [setA_keys]; exact h.1, fun b hb => ?_⟩
        rw [getA_set _ (mem' ha)]
        split
        · next e => subst e; omega
        · exact h.2 b hb
      · exact h
  | keep a k =>
    have ha : a ∈ cs.map (·.1) := hd
    have l := h.2 a ha
    exact h.set ha (by split <;> split <;> omega)
  | move a k b =>
    obtain ⟨ha, hb, hab⟩ := hd
    have l := h.2 a ha
    have lb := h.2 b hb
    show Below (if k ≤ getA cs a then setA (setA cs a (getA cs a - 1)) b (getA (setA cs a (getA cs a - 1)) b + 1) else cs) (if k ≤ getA cs' a then setA (setA cs' a (getA cs' a - 1)) b (getA (setA cs' a (getA cs' a - 1)) b + 1) else cs')
    rw [getA_set _ ha, getA_set _ (mem' ha), if_neg (Ne.symm hab), if_neg (Ne.symm hab)]
    by_cases c : k ≤ getA cs a
    · rw [if_pos c, if_pos (by omega)]
      exact (h.set ha (by omega)).set (setA_mem hb) (by omega)
    · rw [if_neg c]
      split
      · refine ⟨by rw [setA_keys, setA_keys]; exact h.1, fun e he => ?_⟩
        rw [getA_set _ (setA_mem (mem' hb)), getA_set _ (mem' ha)]
        split
        · next z => subst z; omega
        · split
          · next z => subst z; omega
          · exact h.2 e he
      · exact h
  | merge a b =>
    obtain ⟨ha, hb, hab⟩ := hd
    have l := h.2 a ha
    have lb := h.2 b hb
    exact (h.set hb (by omega)).set (setA_mem ha) (Int.le_refl 0)
theorem Below.run {num : Int} : ∀ (ds : List Deed) {cs cs' : Cts}, Below cs cs' → (∀ d ∈ ds, InN (cs.map (·.1)) d) → Below (runA num cs ds) (runA num cs' ds)
  | [], _, _, h, _ => h
  | d :: ds, cs, cs', h, hd => Below.run ds (h.step (hd d List.mem_cons_self)) fun e he => by rw [stepA_keys]; exact hd e (List.mem_cons_of_mem _ he)
end Z

/-! Z33: Below, and lists of counts side by side. -/
namespace Z
open PySem PySem.Spec PyProof.Rows L2
theorem below_zip : ∀ {ks : List Str} {c c' : List Int}, ks.Nodup → c.length = ks.length → c'.length = ks.length → (∀ p ∈ List.zip c c', p.1 ≤ p.2) → Below (List.zip ks c) (List.zip ks c')
  | [], _, _, _, _, _, _ => ⟨rfl, fun a h => by simp at h⟩
  | _ :: _, [], _, _, h, _, _ => by simp at h
  | _ :: _, _ :: _, [], _, _, h, _ => by simp at h
  | k :: ks, x :: c, y :: c', nd, h1, h2, h => by
    rw [List.nodup_cons] at nd
    have h1' : c.length = ks.length := by simpa using h1
    have h2' : c'.length = ks.length := by simpa using h2
    have ih := below_zip nd.2 h1' h2' fun p hp => h p (List.mem_cons_of_mem _ hp)
    refine ⟨by rw [zip_keys h1, zip_keys h2], fun a ha => ?_⟩
    rw [zip_keys h1] at ha
    show getA ((k, x) :: List.zip ks c) a ≤ getA ((k, y) :: List.zip ks c') a
    by_cases e : k = a
    · subst e
      rw [getA_head (p := (k, x)), getA_head (p := (k, y))]
      exact h (x, y) List.mem_cons_self
    · rw [getA_tail (p := (k, x)) e, getA_tail (p := (k, y)) e]
      refine ih.2 a ?_
      rw [zip_keys h1']
      rcases List.mem_cons.mp ha with z | z
      · exact absurd z.symm e
      · exact z
theorem zip_below : ∀ {cs cs' : Cts}, (cs.map (·.1)).Nodup → Below cs cs' → ∀ p ∈ List.zip (cs.map (·.2)) (cs'.map (·.2)), p.1 ≤ p.2
  | [], _, _, _ => by simp
  | _ :: _, [], _, _ => by simp
  | q :: cs, q' :: cs', nd, h => by
    rw [List.map_cons, List.nodup_cons] at nd
    have hk := h.1
    rw [List.map_cons, List.map_cons] at hk
    injection hk with e1 e2
    have ih := zip_below nd.2 (cs := cs) (cs' := cs') ⟨e2, fun a ha => by
      have ne : q.1 ≠ a := fun z => nd.1 (z ▸ ha)
      have := h.2 a (List.mem_cons_of_mem _ ha)
      rwa [getA_tail ne, getA_tail (e1 ▸ ne)] at this⟩
    intro p hp
    rw [List.map_cons, List.map_cons, List.zip_cons_cons] at hp
    rcases List.mem_cons.mp hp with rfl | hp
    · have := h.2 q.1 (by simp)
      rwa [getA_head, e1, getA_head] at this
    · exact ih p hp
end Z

/-! Z34: data that is short to show. -/
namespace Z
open PySem PySem.Spec PyProof.Rows L2
/-- d can be shown, is at most n deep, weighs at most w -/
structure Mild (d : PyData) (n w : Nat) : Prop where
  lv : d.leavesShort 60 = true
  sw : d.showable = true
  dp : d.depth ≤ n
  wt : d.weight ≤ w
theorem Mild.shown {d : PyData} {n w : Nat} (h : Mild d n w) (hw : w ≤ 200000) : d.shown.length ≤ sizeLine := by
  have := PyData.shown_le 60 (by decide) d h.lv
  have := h.wt
  show _ ≤ 2 ^ 24
  omega
theorem mild_int {i : Int} (h : i.natAbs < 10 ^ 58) : Mild (.int i) 0 200 := by
  have h2 : i.natAbs < 2 ^ 199 := Nat.lt_of_lt_of_le h (by decide +kernel)
  have lg : i.natAbs = 0 ∨ i.natAbs.log2 < 199 := by
    by_cases z : i.natAbs = 0
    · exact .inl z
    · exact .inr ((Nat.log2_lt z).mpr h2)
  refine ⟨?_, ?_, Nat.le_refl 0, ?_⟩
  · have e := int_text_length_le10 (k := 58) (by decide) h
    show decide ((Str.ofString (toString i)).length ≤ 60) = true
    refine decide_eq_true ?_
    rw [PySem.ofString_length]
    omega
  · show decide (i.natAbs.log2 < 1920) = true
    refine decide_eq_true ?_
    rcases lg with z | z
    · rw [z]; decide
    · omega
  · show (if i == 0 then 0 else i.natAbs.log2 + 1) ≤ 200
    split
    · omega
    · rcases lg with z | z
      · rw [z]; decide
      · omega
theorem mild_none : Mild .none 0 0 := ⟨rfl, rfl, Nat.le_refl 0, Nat.le_refl 0⟩
end Z

/-! Z35: lists and tuples of what is short to show. -/
namespace Z
open PySem PySem.Spec PyProof.Rows L2
theorem mild_all {n w : Nat} : ∀ {ds : List PyData}, (∀ d ∈ ds, Mild d n w) → PyData.leavesShortAll 60 ds = true ∧ PyData.showableAll ds = true ∧ PyData.depthAll ds ≤ n ∧ PyData.weightAll ds ≤ ds.length * (w + 1)
  | [], _ => ⟨rfl, rfl, Nat.zero_le _, Nat.zero_le _⟩
  | d :: ds, h => by
    obtain ⟨a, b, c, e⟩ := h d List.mem_cons_self
    obtain ⟨a2, b2, c2, e2⟩ := mild_all fun x hx => h x (List.mem_cons_of_mem _ hx)
    refine ⟨?_, ?_, ?_, ?_⟩
    · rw [PyData.leavesShortAll, a, a2]; rfl
    · rw [PyData.showableAll, b, b2]; rfl
    · rw [PyData.depthAll]; exact Nat.max_le.mpr ⟨c, c2⟩
    · rw [PyData.weightAll, List.length_cons, Nat.add_mul]; omega
theorem mild_tup {n w k : Nat} {ds : List PyData} (h : ∀ d ∈ ds, Mild d n w) (hk : ds.length ≤ k) : Mild (.tuple ds) (n + 1) (k * (w + 1)) := by
  obtain ⟨a, b, c, e⟩ := mild_all h
  refine ⟨?_, ?_, ?_, ?_⟩
  · rw [PyData.leavesShort]; exact a
  · rw [PyData.showable]; exact b
  · rw [PyData.depth]; omega
  · rw [PyData.weight]; exact Nat.le_trans e (Nat.mul_le_mul_right _ hk)
theorem mild_lst {n w k : Nat} {ds : List PyData} (h : ∀ d ∈ ds, Mild d n w) (hk : ds.length ≤ k) : Mild (.list ds) (n + 1) (k * (w + 1)) := by
  obtain ⟨a, b, c, e⟩ := mild_all h
  refine ⟨?_, ?_, ?_, ?_⟩
  · rw [PyData.leavesShort]; exact a
  · rw [PyData.showable]; exact b
  · rw [PyData.depth]; omega
  · rw [PyData.weight]; exact Nat.le_trans e (Nat.mul_le_mul_right _ hk)
theorem Mild.up {d : PyData} {n w n' w' : Nat} (h : Mild d n w) (hn : n ≤ n') (hw : w ≤ w') : Mild d n' w' := ⟨h.lv, h.sw, Nat.le_trans h.dp hn, Nat.le_trans h.wt hw⟩
end Z

/-! Z36: ints compared and shown: what alike asks of the told lists. -/
namespace Z
open PySem PySem.Spec PyProof.Rows L2
theorem lay_ints : ∀ ns : List Int, PyData.canLayAll0 (ns.map .int) = true
  | [] => rfl
  | n :: ns => by rw [List.map_cons, PyData.canLayAll0, lay_ints ns]; rfl
theorem plain_of {d : PyData} {n w : Nat} (m : Mild d n w) (hn : n ≤ 60) (hw : w ≤ 200000) (h : d.canLay0 = true) : Plain d :=
  ⟨by
    unfold SeqAt.shaped
    rw [h, decide_eq_true (Nat.le_trans m.dp (by omega))]
    rfl, m.sw, Nat.le_trans m.dp hn, m.shown hw, SeqAt.eqv_refl d h⟩
theorem plain_ints {ns : List Int} (h : ∀ n ∈ ns, n.natAbs < 10 ^ 58) (hl : ns.length ≤ 900) : Plain (.list (ns.map .int)) :=
  plain_of (mild_lst (n := 0) (w := 200) (k := 900) (fun d hd => by obtain ⟨n, hn, rfl⟩ := mem_ints hd; exact mild_int (h n hn)) (by rw [List.length_map]; exact hl)) (by decide) (by decide) (by rw [PyData.canLay0]; exact lay_ints ns)
theorem plain_tints {ns : List Int} (h : ∀ n ∈ ns, n.natAbs < 10 ^ 58) (hl : ns.length ≤ 900) : Plain (.tuple (ns.map .int)) :=
  plain_of (mild_tup (n := 0) (w := 200) (k := 900) (fun d hd => by obtain ⟨n, hn, rfl⟩ := mem_ints hd; exact mild_int (h n hn)) (by rw [List.length_map]; exact hl)) (by decide) (by decide) (by rw [PyData.canLay0]; exact lay_ints ns)
end Z

/-! Z37: how large the counts may grow. -/
namespace Z
open PySem PySem.Spec PyProof.Rows L2
def Small (B : Int) (cs : Cts) : Prop := ∀ p ∈ cs, 0 ≤ p.2 ∧ p.2 ≤ B
theorem Small.get {B : Int} {cs : Cts} {a : Str} (hB : 0 ≤ B) (h : Small B cs) : 0 ≤ getA cs a ∧ getA cs a ≤ B := by
  unfold getA
  cases e : cs.find? fun p => decide (p.1 = a) with
  | none => exact ⟨Int.le_refl 0, hB⟩
  | some p => exact h p (List.mem_of_find?_eq_some e)
theorem Small.set {B : Int} {cs : Cts} {a : Str} {v : Int} (h : Small B cs) (hv : 0 ≤ v ∧ v ≤ B) : Small B (setA cs a v) := fun p hp => by
  obtain ⟨q, hq, rfl⟩ := List.mem_map.mp hp
  split
  · exact hv
  · exact h q hq
theorem Small.up {B B' : Int} {cs : Cts} (h : Small B cs) (hb : B ≤ B') : Small B' cs := fun p hp => ⟨(h p hp).1, Int.le_trans (h p hp).2 hb⟩
theorem Small.step {B num : Int} {cs : Cts} {d : Deed} {names : List Str} {pool : List Int} (hB : 0 ≤ B) (h : Small B cs) (ok : DeedOk names pool d) : Small (2 * B + 1) (stepA num cs d) := by
  have u := h.up (B' := 2 * B + 1) (by omega)
  have g := fun a => h.get (a := a) hB
  cases d with
  | come a n => exact u.set (by have := g a; split <;> omega)
  | go a k =>
    show Small _ (if k ≤ getA cs a then setA cs a (getA cs a - 1) else cs)
    have := ok.2.1
    split
    · exact u.set (by have := g a; omega)
    · exact u
  | keep a k =>
    have := ok.2.1
    exact u.set (by have := g a; split <;> omega)
  | move a k b =>
    have k1 := ok.2.1
    show Small _ (if k ≤ getA cs a then setA (setA cs a (getA cs a - 1)) b (getA (setA cs a (getA cs a - 1)) b + 1) else cs)
    split
    · have s1 : Small B (setA cs a (getA cs a - 1)) := h.set (by have := g a; omega)
      exact (s1.up (by omega)).set (by have := s1.get (a := b) hB; omega)
    · exact u
  | merge a b => exact (u.set (by have := g a; have := g b; omega)).set (by omega)
end Z

/-! Z38: dicts that are short to show. -/
namespace Z
open PySem PySem.Spec PyProof.Rows L2
theorem mild_kv {n w : Nat} : ∀ {kvs : List (PyData × PyData)}, (∀ p ∈ kvs, Mild p.1 n w ∧ Mild p.2 n w) → PyData.leavesShortKv 60 kvs = true ∧ PyData.showableKv kvs = true ∧ PyData.depthKv kvs ≤ n ∧ PyData.weightKv kvs ≤ kvs.length * (2 * w + 2)
  | [], _ => ⟨rfl, rfl, Nat.zero_le _, Nat.zero_le _⟩
  | (k, v) :: r, h => by
    obtain ⟨⟨a, b, c, e⟩, ⟨a', b', c', e'⟩⟩ := h (k, v) List.mem_cons_self
    obtain ⟨a2, b2, c2, e2⟩ := mild_kv fun x hx => h x (List.mem_cons_of_mem _ hx)
    simp only at a b c e a' b' c' e'
    refine ⟨?_, ?_, ?_, ?_⟩
    · rw [PyData.leavesShortKv, a, a', a2]; rfl
    · rw [PyData.showableKv, b, b', b2]; rfl
    · rw [PyData.depthKv]; exact Nat.max_le.mpr ⟨Nat.max_le.mpr ⟨c, c'⟩, c2⟩
    · rw [PyData.weightKv, List.length_cons, Nat.add_mul]; omega
theorem mild_dict {n w k : Nat} {kvs : List (PyData × PyData)} (h : ∀ p ∈ kvs, Mild p.1 n w ∧ Mild p.2 n w) (hk : kvs.length ≤ k) : Mild (.dict kvs) (n + 1) (k * (2 * w + 2)) := by
  obtain ⟨a, b, c, e⟩ := mild_kv h
  refine ⟨?_, ?_, ?_, ?_⟩
  · rw [PyData.leavesShort]; exact a
  · rw [PyData.showable]; exact b
  · rw [PyData.depth]; omega
  · rw [PyData.weight]; exact Nat.le_trans e (Nat.mul_le_mul_right _ hk)
end Z

/-! Z39: names and words are short to show. -/
namespace Z
open PySem PySem.Spec PyProof.Rows L2
def words : List Str := ["come", "go", "keep", "move", "merge"]
theorem mild_text {ss : List Str} (h : (ss.all fun s => s.cps.toList.all (fun c => decide (c < 16 ^ 8)) && decide (s.cps.size ≤ 8)) = true) {s : Str} (hs : s ∈ ss) : Mild (.str s) 0 8 := by
  have := List.all_eq_true.mp h s hs
  rw [Bool.and_eq_true] at this
  exact ⟨by rw [PyData.leavesShort]; exact this.1, rfl, Nat.le_refl 0, by rw [PyData.weight]; exact of_decide_eq_true this.2⟩
theorem mild_name {s : Str} (h : s ∈ menu) : Mild (.str s) 0 8 := mild_text (by decide +kernel) h
theorem mild_word {s : Str} (h : s ∈ words) : Mild (.str s) 0 8 := mild_text (by decide +kernel) h
end Z

/-! Z40: houses are short to show. -/
namespace Z
open PySem PySem.Spec PyProof.Rows L2
theorem small_abs {i : Int} {n : Nat} (h0 : -(n : Int) ≤ i) (h1 : i ≤ (n : Int)) : i.natAbs ≤ n := by omega
theorem mild_row {r : HRow} (ok : RowOk r) (hn : r.name ∈ menu) : Mild (rowD r) 1 603 := by
  have h58 : (20 : Nat) < 10 ^ 58 := by decide +kernel
  refine mild_tup (n := 0) (w := 200) (k := 3) (fun d hd => ?_) (Nat.le_refl _)
  simp only [List.mem_cons, List.not_mem_nil, or_false] at hd
  rcases hd with rfl | rfl | rfl
  · exact (mild_name hn).up (Nat.le_refl 0) (by decide)
  · have l0 := ok.l0
    have l1 := ok.l1
    exact mild_int (Nat.lt_of_le_of_lt (small_abs (n := 20) (by omega) (by omega)) h58)
  · cases e : r.most with
    | none => exact mild_none.up (Nat.le_refl 0) (Nat.zero_le _)
    | some x =>
      have q := ok.m x e
      have l0 := ok.l0
      exact mild_int (Nat.lt_of_le_of_lt (small_abs (n := 20) (by omega) (by omega)) h58)
theorem mild_house {h : List HRow} (ok : HouseOk h) : Mild (houseD h) 2 (9 * 604) :=
  mild_tup (n := 1) (w := 603) (k := 9) (fun d hd => by
    obtain ⟨r, hr, rfl⟩ := List.mem_map.mp hd
    exact mild_row (ok.row r hr) (ok.mem r hr)) (by rw [List.length_map]; exact ok.n1)
end Z

/-! Z41: deeds are short to show. -/
namespace Z
open PySem PySem.Spec PyProof.Rows L2
theorem mild_num {n : Int} (h : -numB * 10 ≤ n ∧ n ≤ numB * 10) : Mild (.int n) 0 200 := by
  refine mild_int (Nat.lt_of_le_of_lt (small_abs (n := 10 ^ 42) ?_ ?_) (by decide +kernel))
  · have := h.1
    unfold numB at this
    have e : ((10 ^ 42 : Nat) : Int) = 1000000000000000000000000000000000000000000 := by decide +kernel
    omega
  · have := h.2
    unfold numB at this
    have e : ((10 ^ 42 : Nat) : Int) = 1000000000000000000000000000000000000000000 := by decide +kernel
    omega
end Z

/-! Z42: deeds, scripts, tables are short to show. -/
namespace Z
open PySem PySem.Spec PyProof.Rows L2
theorem mild_small {n : Int} (h : -1000 ≤ n ∧ n ≤ 1000) : Mild (.int n) 0 200 := mild_num (by unfold numB; omega)
/-- the numbers of a pool that a deed may carry -/
def PoolB (pool : List Int) : Prop := ∀ n ∈ pool, -numB * 10 ≤ n ∧ n ≤ numB * 10
theorem mild_deed {names : List Str} {pool : List Int} {d : Deed} (hn : ∀ s ∈ names, s ∈ menu) (hp : PoolB pool) (ok : DeedOk names pool d) : Mild (deedD d) 1 804 := by
  have nm : ∀ {s}, s ∈ names → Mild (.str s) 0 200 := fun h => (mild_name (hn _ h)).up (Nat.le_refl 0) (by decide)
  have wd : ∀ {s}, s ∈ words → Mild (.str s) 0 200 := fun h => (mild_word h).up (Nat.le_refl 0) (by decide)
  have tup : ∀ {ds : List PyData}, ds.length ≤ 4 → (∀ d ∈ ds, Mild d 0 200) → Mild (.tuple ds) 1 804 := fun hl h => mild_tup (n := 0) (w := 200) (k := 4) h hl
  cases d with
  | come a n =>
    refine tup (Nat.le_of_ble_eq_true rfl) fun d hd => ?_
    simp only [List.mem_cons, List.not_mem_nil, or_false] at hd
    rcases hd with rfl | rfl | rfl
    · exact wd (by decide)
    · exact nm ok.1
    · exact mild_num (hp n ok.2)
  | go a k =>
    refine tup (Nat.le_of_ble_eq_true rfl) fun d hd => ?_
    simp only [List.mem_cons, List.not_mem_nil, or_false] at hd
    rcases hd with rfl | rfl | rfl
    · exact wd (by decide)
    · exact nm ok.1
    · exact mild_small (by have := ok.2; omega)
  | keep a k =>
    refine tup (Nat.le_of_ble_eq_true rfl) fun d hd => ?_
    simp only [List.mem_cons, List.not_mem_nil, or_false] at hd
    rcases hd with rfl | rfl | rfl
    · exact wd (by decide)
    · exact nm ok.1
    · exact mild_small (by have := ok.2; omega)
  | move a k b =>
    refine tup (Nat.le_of_ble_eq_true rfl) fun d hd => ?_
    simp only [List.mem_cons, List.not_mem_nil, or_false] at hd
    rcases hd with rfl | rfl | rfl | rfl
    · exact wd (by decide)
    · exact nm ok.1
    · exact mild_small (by have := ok.2; omega)
    · exact nm ok.2.2.2.1
  | merge a b =>
    refine tup (Nat.le_of_ble_eq_true rfl) fun d hd => ?_
    simp only [List.mem_cons, List.not_mem_nil, or_false] at hd
    rcases hd with rfl | rfl | rfl
    · exact wd (by decide)
    · exact nm ok.1
    · exact nm ok.2.1
theorem mild_script {names : List Str} {pool : List Int} {ds : List Deed} (hn : ∀ s ∈ names, s ∈ menu) (hp : PoolB pool) (ok : ∀ d ∈ ds, DeedOk names pool d) (hl : ds.length ≤ 16) : Mild (scriptD ds) 2 (16 * 805) :=
  mild_tup (n := 1) (w := 804) (k := 16) (fun d hd => by
    obtain ⟨e, he, rfl⟩ := List.mem_map.mp hd
    exact mild_deed hn hp (ok e he)) (by rw [List.length_map]; exact hl)
theorem mild_tab {t : Tab} {pool : List Int} (hn : ∀ p ∈ t, p.1 ∈ menu) (hp : PoolB pool) (hr : ∀ p ∈ t, p.2.length ≤ 40 ∧ ∀ n ∈ p.2, n ∈ pool) (hl : t.length ≤ 9) : Mild (tabD t) 2 (9 * (2 * 8040 + 2)) := by
  unfold tabD dictK
  refine mild_dict (n := 1) (w := 8040) (k := 9) (fun q hq => ?_) (by rw [List.length_map, List.length_map]; exact hl)
  obtain ⟨q2, hq2, rfl⟩ := List.mem_map.mp hq
  obtain ⟨p, hp2, rfl⟩ := List.mem_map.mp hq2
  refine ⟨(mild_name (hn p hp2)).up (Nat.zero_le _) (by decide), ?_⟩
  exact mild_tup (n := 0) (w := 200) (k := 40) (fun d hd => by
    obtain ⟨n, hn2, rfl⟩ := mem_ints hd
    exact mild_num (hp n ((hr p hp2).2 n hn2))) (by rw [List.length_map]; exact (hr p hp2).1)
end Z

/-! Z43: how large counts are behind a script; told pairs of counts are plain. -/
namespace Z
open PySem PySem.Spec PyProof.Rows L2
theorem Small.run {num : Int} {names : List Str} {pool : List Int} : ∀ (ds : List Deed) {B : Int} {cs : Cts}, 0 ≤ B → Small B cs → (∀ d ∈ ds, DeedOk names pool d) → Small ((B + 1) * 2 ^ ds.length - 1) (runA num cs ds)
  | [], B, cs, hB, h, _ => by
    show Small _ cs
    exact h.up (by simp)
  | d :: ds, B, cs, hB, h, ok => by
    have s1 : Small (2 * B + 1) (stepA num cs d) := h.step hB (ok d (by simp))
    have r := Small.run (num := num) ds (B := 2 * B + 1) (by omega) s1 fun e he => ok e (by simp [he])
    have e : (2 * B + 1 + 1) * 2 ^ ds.length - 1 = (B + 1) * 2 ^ (d :: ds).length - 1 := by
      rw [List.length_cons, Int.pow_succ, show (2 * B + 1 + 1 : Int) = (B + 1) * 2 by omega, Int.mul_assoc, Int.mul_comm 2]
    rw [e] at r
    exact r
def ctsL (cs : Cts) : List Int := cs.map (·.2)
theorem ctsD_eq (cs : Cts) : ctsD cs = .tuple ((ctsL cs).map .int) := by unfold ctsD ctsL; rw [List.map_map]; rfl
theorem mild_cts {cs : Cts} (h : Small 1000000 cs) (hl : cs.length ≤ 9) : Mild (ctsD cs) 1 (9 * 201) := by
  rw [ctsD_eq]
  refine mild_tup (n := 0) (w := 200) (k := 9) (fun d hd => ?_) (by unfold ctsL; rw [List.length_map, List.length_map]; exact hl)
  obtain ⟨n, hn, rfl⟩ := mem_ints hd
  obtain ⟨p, hp, rfl⟩ := List.mem_map.mp hn
  have := h p hp
  exact mild_num (by unfold numB; omega)
theorem lay_cts (cs : Cts) : (ctsD cs).canLay0 = true := by rw [ctsD_eq, PyData.canLay0]; exact lay_ints _
theorem plain_cts {cs : Cts} (h : Small 1000000 cs) (hl : cs.length ≤ 9) : Plain (ctsD cs) := plain_of (mild_cts h hl) (by decide) (by decide) (lay_cts cs)
theorem plain_two {a b : Cts} (ha : Small 1000000 a) (hb : Small 1000000 b) (la : a.length ≤ 9) (lb : b.length ≤ 9) : Plain (.list [ctsD a, ctsD b]) := by
  refine plain_of (n := 2) (w := 2 * (9 * 201 + 1)) (mild_lst (n := 1) (w := 9 * 201) (k := 2) (fun d hd => ?_) (Nat.le_refl 2)) (by decide) (by decide) ?_
  · simp only [List.mem_cons, List.not_mem_nil, or_false] at hd
    rcases hd with rfl | rfl
    · exact mild_cts ha la
    · exact mild_cts hb lb
  · rw [PyData.canLay0, PyData.canLayAll0, PyData.canLayAll0, lay_cts, lay_cts]; rfl
theorem small_zip {ks : List Str} {c : List Int} (h : ∀ n ∈ c, 0 ≤ n ∧ n ≤ 43) : Small 43 (List.zip ks c) := fun p hp => h p.2 (List.of_mem_zip hp).2
theorem small_run {num : Int} {names : List Str} {pool : List Int} {ds : List Deed} {cs : Cts} (h : Small 43 cs) (hl : ds.length ≤ 12) (ok : ∀ d ∈ ds, DeedOk names pool d) : Small 1000000 (runA num cs ds) := by
  refine (Small.run ds (by decide) h ok).up ?_
  have h2 : (2 : Int) ^ ds.length ≤ 2 ^ 12 := by exact_mod_cast Nat.pow_le_pow_right (show 0 < 2 by decide) hl
  have : (43 + 1 : Int) * 2 ^ ds.length ≤ (43 + 1) * 2 ^ 12 := Int.mul_le_mul_of_nonneg_left h2 (by decide)
  have e : ((43 + 1 : Int) * 2 ^ 12) = 180224 := by decide
  omega
def mapRightS : ZSp := fun ws M Φ => ∃ (b : Bag) (R : MS) (h : List HRow) (ds : List Deed) (pool ns : List Int), ws = [.m 0, .d (houseD h), .d (scriptD ds), .d (.list (ns.map .int))] ∧ M = bagO b :: R ∧ b.Good ∧ HouseOk h ∧
  (∀ d ∈ ds, DeedOk (sorts h) pool d) ∧ ds.length ≤ 12 ∧ 0 < ns.length ∧ ns.length < 1000 ∧ ∀ (b' : Bag), b'.Good → Φ (.d (.bool true)) (bagO b' :: R)
end Z

/-! Z44: what k84's law needs of told lists, tables and counts. -/
namespace Z
open PySem PySem.Spec PyProof.Rows L2
/-! ### sorted({..}) as a new cell -/
section
variable {X : Cx} {tg it elt e : Expr} {ifs : List Expr} {scope : Scope} {Γ : GS} {M : MS} {pos pos2 p p2 : Pos} {Φ : W → MS → Prop}
theorem sorted_endM {F H : Hp} {ι : List Addr} {Q : VK} {D : Addr} {ns : List Int} {c : Nat} (R : Rep F H ι M) (hD : H D = some (SetO X.w D (fun j => decide (j ∈ ns)) c)) (hc : c < 64)
    (φ : RiseW ns fun ks => Φ (.m M.length) (M ++ [.lst ((ks.map PyData.int).map .d)])) (hQ : ∀ z H', Post F ι H Φ z H' → Q z H') : rSortedSet X.w [.ref D] H Q :=
  ⟨D, _, c, rfl, hD, hc, fun ks q pw hm hl n => new_cell R .of_ints (φ ks pw fun k => by rw [hm k]; simp) hQ q n⟩
theorem zk_sortedScM {own : List (Str × Nat)} (bs : X.mg "sorted" = none) (hc : X.calm = true) (hN : X.N.Nodup) (ok : BlkOk X.N X.env.scope scope own)
    (h : ZI X tg it Γ M fun ds M1 => ∃ I, LcT X (own.map (·.2)) tg elt ifs scope ds Γ M1 I (fun acc M2 => ∀ ks : List Int, acc = ks.map (fun k => .d (.int k)) → RiseW ks fun ks' => Φ (.m M2.length) (M2 ++ [.lst ((ks'.map PyData.int).map .d)])) ∧
      ∀ i acc M2, I i acc M2 → ∃ ks : List Int, acc = ks.map (fun k => .d (.int k)) ∧ ks.length < 64) (hs : ∀ x, foldedSetIterable it X.env x = pure x := by intro _; rfl)
    (hg : Gl X "sorted" := by rfl) (sy : CSyn X (.SetComp elt [⟨tg, it, ifs, 0⟩] scope pos2) [] pos := by exact ⟨by rfl, by rfl⟩) :
    ZE X (.Call (.Name "sorted" p) [.SetComp elt [⟨tg, it, ifs, 0⟩] scope pos2] [] pos) Γ M Φ := fun F ι σ H R S => by
  refine w_e (pe_callB (cr_sortedSet hc) hg bs bt_sorted (pa_cons (pe_sci hc hN pi_w ok pg_b pts_b pe_b hs) pa_nil sy.star) (he := sy.star) (hpl := sy.plain)) ?_
  show tSci X.w _ _ _ _ _ σ H (fun x H1 => rSortedSet X.w [x] H1 (Post F ι H Φ))
  refine sc_read S R h ?_
  intro L H' F' ι' M' ks c E R' hL hc' hk φ
  exact sorted_endM R' hL (by omega) (φ ks rfl) fun z H' p => Post.ext E p
end
def marksMS : ZSp := fun ws M Φ => ∃ (ds : List Deed), ws = [.d (scriptD ds)] ∧ ds.length < 60 ∧ RiseW (comesOf ds) fun ks => Φ (.m M.length) (M ++ [.lst ((ks.map PyData.int).map .d)])
/-! ### rising lists of the same members are one -/
theorem rise_eq {ks ks' : List Int} (h : ks.Pairwise (· < ·)) (h' : ks'.Pairwise (· < ·)) (m : ∀ k, k ∈ ks ↔ k ∈ ks') : ks = ks' := by
  have nd : ks.Nodup := h.imp fun a => Int.ne_of_lt a
  have nd' : ks'.Nodup := h'.imp fun a => Int.ne_of_lt a
  have p : ks.Perm ks' := (List.perm_ext_iff_of_nodup nd nd').mpr m
  exact p.eq_of_pairwise (fun a b _ _ h1 h2 => by omega) h h'
theorem comes_pool {names : List Str} {pool : List Int} {ds : List Deed} (ok : ∀ d ∈ ds, DeedOk names pool d) : ∀ n ∈ comesOf ds, n ∈ pool := fun n hn => by
  obtain ⟨d, hd, e⟩ := List.mem_filterMap.mp hn
  cases d with
  | come a m =>
    have := (ok _ hd).2
    cases e
    exact this
  | _ => cases e
/-! ### the counts of tables -/
theorem zip_map {α : Type} (f : α → Str) (g : α → Int) : ∀ h : List α, List.zip (h.map f) (h.map g) = h.map fun r => (f r, g r)
  | [] => rfl
  | r :: h => by rw [List.map_cons, List.map_cons, List.zip_cons_cons, zip_map f g h]; rfl
theorem at_start (h : List HRow) (t : Tab) (num : Int) : List.zip (sorts h) (h.map fun r => cnt num (getT t r.name)) = cntT num (startT h t) := by
  unfold sorts cntT startT
  rw [zip_map, List.map_map]
  rfl
theorem getT_mapped {f : Str → List Int} : ∀ {ks : List Str} {a : Str}, a ∈ ks → getT (ks.map fun a => (a, f a)) a = f a
  | [], _, h => absurd h (by simp)
  | k :: ks, a, h => by
    rw [List.map_cons]
    by_cases e : k = a
    · subst e; exact getT_head
    · rw [getT_tail e]
      exact getT_mapped ((List.mem_cons.mp h).resolve_left fun z => e z.symm)
theorem ctsD_cnt {num : Int} {t : Tab} (nd : (t.map (·.1)).Nodup) : ctsD (cntT num t) = .tuple ((t.map (·.1)).map fun a => .int (cnt num (getT t a))) := by
  unfold ctsD
  have e := read_all (cs := cntT num t) (by rw [cntT_keys]; exact nd)
  rw [← e, cntT_keys]
  congr 1
  exact List.map_congr_left fun a ha => by rw [getA_cntT ha]
/-- what the law compares at a number -/
theorem at_behind {h : List HRow} {t : Tab} {ds : List Deed} {num : Int} {pool : List Int} {ks : List Str} (ok : HouseOk h) (rs : Rising (startT h t)) (hds : ∀ d ∈ ds, DeedOk (sorts h) pool d) (pk : ks.Perm (sorts h)) :
    ctsD (runA num (List.zip (sorts h) (h.map fun r => cnt num (getT t r.name))) ds) = .tuple (h.map fun r => .int (cnt num (getT (ks.map fun a => (a, getT (runT (startT h t) ds) a)) r.name))) := by
  have k0 : (startT h t).map (·.1) = sorts h := startT_keys h t
  rw [at_start, run_law ds (names := sorts h) (by rw [k0]; exact ok.nd) rs k0 hds, ctsD_cnt (by rw [runT_keys, k0]; exact ok.nd), runT_keys, k0]
  congr 1
  unfold sorts
  rw [List.map_map]
  refine List.map_congr_left fun r hr => ?_
  show PyData.int (cnt num (getT (runT (startT h t) ds) r.name)) = _
  rw [getT_mapped (f := fun a => getT (runT (startT h t) ds) a) (pk.mem_iff.mpr (List.mem_map.mpr ⟨r, hr, rfl⟩))]
theorem small_at {h : List HRow} {t : Tab} {num : Int} (hb : ∀ p ∈ t, p.2.length ≤ 40) : Small 43 (List.zip (sorts h) (h.map fun r => cnt num (getT t r.name))) := fun p hp => by
  obtain ⟨r, _, e⟩ := List.mem_map.mp (List.of_mem_zip hp).2
  have h1 := cnt_nn num (getT t r.name)
  have h2 := cnt_le num (getT t r.name)
  have h3 : (getT t r.name).length ≤ 40 := getT_bd hb
  rw [← e]
  omega
theorem rising_start {h : List HRow} {t : Tab} (hr : ∀ p ∈ t, p.2.Pairwise (· ≤ ·)) : Rising (startT h t) := fun p hp => by
  obtain ⟨r, _, rfl⟩ := List.mem_map.mp hp
  exact Rising.get hr
/-! ### what is shown -/
theorem mild_three {a b c : PyData} {n wa wb wc : Nat} (ha : Mild a n wa) (hb : Mild b n wb) (hc : Mild c n wc) : Mild (.list [a, b, c]) (n + 1) (wa + wb + wc + 3) := by
  have := ha.dp
  have := hb.dp
  have := hc.dp
  have := ha.wt
  have := hb.wt
  have := hc.wt
  refine ⟨?_, ?_, ?_, ?_⟩
  · simp only [PyData.leavesShort, PyData.leavesShortAll, ha.lv, hb.lv, hc.lv, Bool.and_self]
  · simp only [PyData.showable, PyData.showableAll, ha.sw, hb.sw, hc.sw, Bool.and_self]
  · simp only [PyData.depth, PyData.depthAll]; omega
  · simp only [PyData.weight, PyData.weightAll]; omega
theorem pool_ends {pool : List Int} (h : pool ≠ []) : ∃ lo ∈ pool, ∃ hi ∈ pool, atI (pool.map PyData.int) 0 = some (.int lo) ∧ atI (pool.map PyData.int) (-1) = some (.int hi) := by
  cases pool with
  | nil => exact absurd rfl h
  | cons x xs =>
    refine ⟨x, by simp, (x :: xs).getLast (by simp), List.getLast_mem _, atI_zero _ _, ?_⟩
    have gen : ∀ (l i : List Int) (z : Int), i ++ [z] = l → atI (l.map PyData.int) (-1) = some (.int z) := fun l i z e => by
      rw [← e, List.map_append]
      exact atI_last _ _
    exact gen _ _ _ (List.dropLast_concat_getLast (l := x :: xs) (by simp))
theorem rise_len : ∀ {ns ks : List Int}, ks.Pairwise (· < ·) → (∀ k, k ∈ ks → k ∈ ns) → ks.length ≤ ns.length
  | ns, [], _, _ => Nat.zero_le _
  | ns, k :: ks, pw, hm => by
    obtain ⟨h1, h2⟩ := List.pairwise_cons.mp pw
    have hk := hm k (by simp)
    have r := rise_len (ns := ns.erase k) h2 fun j hj => (List.mem_erase_of_ne (by have := h1 j hj; omega)).mpr (hm j (by simp [hj]))
    have e := List.length_erase_of_mem hk
    have : 0 < ns.length := List.length_pos_of_mem hk
    rw [List.length_cons]
    omega
end Z

/-! Z45: the end of a law whose def is promised by FnG: the call behind the top, a Hook that tells also that the system's dict of modules stands. -/
namespace Z
open PySem PySem.Spec PyProof.Rows L2
/-- the object at the system's dict of modules is a dict -/
def isSys : Option Obj → Bool
  | some ⟨_, _, .dict _ _, _⟩ => true
  | _ => false
theorem isSys_ok {o : Option Obj} (h : isSys o = true) : ∃ ob es n, o = some ob ∧ ob.data = .dict es n := by
  unfold isSys at h
  split at h
  · exact ⟨_, _, _, rfl, rfl⟩
  · cases h
def SysAt (h : Heap) : Prop := ∃ ob es n, h.get? sysModules = some ob ∧ ob.data = .dict es n
def hookZ (n : Nat) (fa : List He.Fa) (fn : List He.DefD) : PySem.W.Hook where
  α := He.AlD × Bool
  obs := fun s => (He.obsDG n fa fn s.heap.get?, isSys (s.heap.get? sysModules))
  val := fun _ => (He.valD fn, true)
  says := fun w h => (He.hookD n fa fn).says w h ∧ SysAt h
  of := fun w s e => ⟨(He.hookD n fa fn).of w s (congrArg Prod.fst e), isSys_ok (congrArg Prod.snd e)⟩
  keeps := fun w h h' q k => ⟨(He.hookD n fa fn).keeps w h h' q.1 k, let ⟨ob, es, m, e, d⟩ := q.2; ⟨ob, es, m, k _ _ e, d⟩⟩
def obZ (n : Nat) (fa : List He.Fa) (fn : List He.DefD) (s : PySem.W.SharedT) : He.AlD × Bool := (He.obsDG n fa fn (HandSHeadRun.getT s), isSys (HandSHeadRun.getT s sysModules))
theorem obZ_eq {n : Nat} {fa : List He.Fa} {fn : List He.DefD} (s : PySem.W.SharedT) : obZ n fa fn s = (hookZ n fa fn).obs s.abs := by
  unfold obZ
  rw [HandSHeadRun.getT_eq s sysModules, He.obsDG_eq (HandSHeadRun.getT_eq s)]
  rfl
section
variable {P : Program} {w : World} {K : PySem.W.Frag} {mg mb : Str → Option Value} {s₁ : Shared} {a : Addr} {vs : List Value} {H : Hp}
/-- nothing but the script is tracked: the ground below -/
theorem ground0 (KX : K.In s₁.heap) (hm : s₁.heap.Ns mainGlobals mg) (hb : s₁.heap.Ns builtinsNs mb) (hbb : ∀ x : Str, x ≠ "__name__" → mb x = bootBuiltins x) (hlim : s₁.heap.NoLimit) (hg : s₁.gens = #[]) (sys : SysAt s₁.heap)
    (ha : s₁.heap.get? a = some { cls := .type "list", data := .seq vs.toArray }) (one : ∀ b u, H b = some u → b = a ∧ K.lookup a = none) (hok : HOk P w H s₁.heap) :
    Env0 P w K mg (hidT s₁.heap H) callerA [] s₁ H ∧ K.In (hidT s₁.heap H) ∧ (hidT s₁.heap H).Ns mainGlobals mg ∧ ∃ o, (hidT s₁.heap H).get? sysModules = some o := by
  have away : ∀ {b : Addr}, (b = a → False) ∨ (∃ o, K.lookup b = some o) → H b = none := fun {b} q => by
    cases e : H b with
    | none => rfl
    | some u =>
      obtain ⟨e1, e2⟩ := one b u e
      rcases q with q | ⟨o, q⟩
      · exact (q e1).elim
      · rw [e1, e2] at q; cases q
  have notA : ∀ {b : Addr} {o : Obj} {es : Array DictEntry} {n : Nat}, s₁.heap.get? b = some o → o.data = .dict es n → H b = none := fun {b o es n} e d => away (.inl fun z => by
    rw [z, ha] at e
    cases e
    cases d)
  have put : ∀ {b : Addr} {m : Str → Option Value}, s₁.heap.Ns b m → (hidT s₁.heap H).Ns b m := fun {b m} q => by
    obtain ⟨o, es, n, e, d, r⟩ := q
    exact ⟨o, es, n, hidT_get e (notA e d), d, r⟩
  have kin : K.In (hidT s₁.heap H) := fun b o e => hidT_get (KX b o e) (away (.inr ⟨o, e⟩))
  have lim : (hidT s₁.heap H).NoLimit := by
    obtain ⟨mc, q1, q2⟩ := hlim
    exact ⟨mc, put q1, q2⟩
  obtain ⟨ob, es, n, e, d⟩ := sys
  exact ⟨⟨rfl, ⟨kin, put hm, ⟨mb, put hb, hbb⟩, lim⟩, fun b o q => of_hidT q, by rw [hidT_size]; exact Nat.le_refl _, trivial, fun b q => (by cases q), hok, .of_eq hg⟩, kin, put hm, ob, hidT_get e (notA e d)⟩
/-- the law's call behind the top -/
theorem lawG {k : Nat} {fa : Addr} {fd : FuncData} {x : Str} {sp : Sp} {ns : List Int} (KX : K.In s₁.heap) (hm : s₁.heap.Ns mainGlobals mg) (hb : s₁.heap.Ns builtinsNs mb) (hbb : ∀ x : Str, x ≠ "__name__" → mb x = bootBuiltins x)
    (hlim : s₁.heap.NoLimit) (hg : s₁.gens = #[]) (sys : SysAt s₁.heap) (ha : s₁.heap.get? a = some { cls := .type "list", data := .seq vs.toArray }) (hi : IntsAre vs ns) (hl : ns.length ≤ sizeLine) (hr : RoomZ k callerA)
    (G : ∀ base : Heap, K.In base → base.Ns mainGlobals mg → (∃ o, base.get? sysModules = some o) → FnG ⟨P, w, K, mg, base⟩ CX0 k fa fd [x] sp) (hbind : ∀ (s : Shared) (u : Value), BindsTo s fd ⟨[u], []⟩ [(x, u)])
    (hsp : ∀ H : Hp, SqL K H a (ns.map V.int) → sp [.ref a] H (fun v _ => v = .bl true) fun _ _ _ => False) :
    codeAny (model P w) callerA (.call (.ref fa) ⟨[.ref a], []⟩) (fun r s' => r = .ok (.ret (.bool true)) ∧ OldK s₁.heap s'.heap ∧ s'.os = s₁.os ∧ AllBare s'.gens) s₁ := by
  have rv := vals_ints hi
  have run : ∀ H : Hp, SqL K H a (ns.map V.int) → (∀ b u, H b = some u → b = a ∧ K.lookup a = none ∧ ∃ xs, u = .frz { cls := .type "list", data := .seq vs.toArray } (.lst xs)) → HOk P w H s₁.heap →
      codeAny (model P w) callerA (.call (.ref fa) ⟨[.ref a], []⟩) (fun r s' => r = .ok (.ret (.bool true)) ∧ OldK s₁.heap s'.heap ∧ s'.os = s₁.os ∧ AllBare s'.gens) s₁ := by
    intro H sq one hok
    obtain ⟨e0, k1, k2, k3⟩ := ground0 KX hm hb hbb hlim hg sys ha (fun b u e => ⟨(one b u e).1, (one b u e).2.1⟩) hok
    have c := (G _ k1 k2 k3).run callerA [] s₁ H ⟨[.ref a], []⟩ [.ref a] [.ref a] _ _ hr e0 (hbind s₁ _) (.cons rfl .nil) (hsp H sq)
    refine codeAny_mono c ?_
    rintro (e | fl) s' q
    · exact q.elim
    · cases fl with
      | ret u =>
        obtain ⟨v, H', q1, q2, q3, q4, q5, q6⟩ := q
        subst q6
        obtain rfl : u = .bool true := q5
        refine ⟨rfl, OldK.of_keep fun b o e => ?_, q1, q2⟩
        cases eb : H b with
        | none => exact q3.keep b o e eb (fun z => by cases z) (fun z => by cases z)
        | some u =>
          obtain ⟨rfl, _, xs, rfl⟩ := one b u eb
          have before := (hok b _ eb).1
          have after := (q4 b _ (q3.frzs b _ _ eb)).1
          rw [e] at before
          rw [after, ← before]
      | next => exact q.elim
      | brk => exact q.elim
      | cont => exact q.elim
  cases hk : K.lookup a with
  | some o =>
    have e := KX a o hk
    rw [ha] at e
    cases e
    exact run (fun _ => none) (.inr ⟨_, vs.toArray, _, hk, rfl, rfl, rfl, by rw [List.size_toArray, hi.length]; exact hl, by simpa using rv⟩) (fun b u z => by cases z) fun b u z => by cases z
  | none =>
    have lk : ∀ b u, (if b = a then some (HO.frz { cls := .type "list", data := .seq vs.toArray } (.lst (ns.map V.int))) else none) = some u → b = a ∧ u = .frz { cls := .type "list", data := .seq vs.toArray } (.lst (ns.map V.int)) := fun b u z => by
      by_cases q : b = a
      · rw [if_pos q] at z; cases z; exact ⟨q, rfl⟩
      · rw [if_neg q] at z; cases z
    refine run (fun b => if b = a then some (.frz { cls := .type "list", data := .seq vs.toArray } (.lst (ns.map V.int))) else none) (.inl (.inr ⟨_, if_pos rfl⟩)) (fun b u z => ?_) fun b u z => ?_
    · obtain ⟨q1, q2⟩ := lk b u z
      exact ⟨q1, hk, _, q2⟩
    · obtain ⟨rfl, rfl⟩ := lk b u z
      exact ⟨ha, by rw [List.length_map]; exact hl, vs, _, rv, ha⟩
end
theorem room0 {k : Nat} (h : Room k callerA) : RoomZ k callerA := ⟨h, rfl⟩
/-- a law of a script of whole numbers, by its def's promise -/
theorem walkG {l : PySem.W.OpenLaw} {n k : Nat} {q : Program} {loose : List Str} {XP : (Str → Option Value) → Heap → Prop} {d : DefRec} {x : Str} {hn1 : Nat} {fa : List He.Fa} {fn : List He.DefD}
    (hn : l.most = some n) (hn2 : n ≤ sizeLine) (hdf : d.params.defaults = []) (hr : RoomZ k callerA)
    (F : ∀ (w : World) (K : PySem.W.Frag) (mg : Str → Option Value) (f : Addr) (h : Heap), K.In h → He.SaysD fa fn K → h.Ns mainGlobals mg → mg d.name = some (.ref f) →
      ∃ (fd : FuncData) (sp : Sp), (∀ (s : Shared) (u : Value), BindsTo s fd ⟨[u], []⟩ [(x, u)]) ∧
        (∀ (H : Hp) (a : Addr) (ns : List Int), ns.length ≤ n → SqL K H a (ns.map V.int) → sp [.ref a] H (fun v _ => v = .bl true) fun _ _ _ => False) ∧
        ∀ base : Heap, K.In base → base.Ns mainGlobals mg → (∃ o, base.get? sysModules = some o) → FnG ⟨l.prog, w, K, mg, base⟩ CX0 k f fd [x] sp) :
    PySem.W.WalkO q loose XP (hookZ hn1 fa fn).says l.row.toRowW d [] (fun f vs => PySem.call f vs) := by
  refine Att.attach_call hn hdf fun w s₀ s₁ mg mb f o pm cd doc a vs ns G Y ho hd hcd hmg hobj hints hlen hg => ?_
  obtain ⟨⟨K, KX, c⟩, sys⟩ := Y
  obtain ⟨fd, sp, q1, q2, q3⟩ := F w K mg f _ KX c G.T.g hmg
  exact lawG KX G.T.g G.T.b G.T.builtins G.T.nolimit hg sys hobj hints (Nat.le_trans hlen hn2) hr q3 q1 fun H sq => q2 H a ns hlen sq
end Z

/-! Z46: a def's promise over HandS's heaps (FnG); what the bag's maker promises; the law's start. -/
namespace Z
open PySem PySem.Spec PyProof.Rows L2
/-- THE RULE for a def, promised over heaps -/
theorem fg_of {T : Top} {x : Str} {st : Stmt} {N ps : List Str} {k : Nat} {f : Addr} {fd : FuncData} {sp : Sp} (F : Fun T.K x x st f fd) (Sc : FnScope N ps (defScope st)) (len : ∀ vs H Q E, sp vs H Q E → vs.length = ps.length)
    (body : ∀ (cdv : Value) (A : Around) (outer : List Env) (s : Shared) (H : Hp) (vs : List V) (Q : VK) (E : XK), RoomZ k (A.deeper (envOfC x (defScope st) s.heap.objs.size f cdv)) → sp vs H Q E →
      wSs (dcx T x st N f cdv A outer s H E) (defBody st) { nx := fun _ H' => Q .non H', rt := Q } (L2.start N vs) H) : FnG T CX0 (k + 1) f fd ps sp := by
  refine ⟨len, fun A outer s H args us vs Q E hr e0 hB r hsp => ?_⟩
  obtain ⟨oc, od, kV, doc, pm, an, cdv, ct, osl, rfl, lk, hcd⟩ := F.ex
  have KX : T.K.In s.heap := e0.mod.kin.keeps fun b o e => (e0.bs b o e).1
  have lim : s.heap.NoLimit := e0.mod.nolimit.keeps fun b o e => (e0.bs b o e).1
  have kinds : ∀ y ∈ ps.zip us, (defScope st).names.lookup y.1 = some .local ∨ ((defScope st).names.lookup y.1 = some .cell ∧ ((cellsFrom (s.heap.objs.size + 1) (defScope st).names []).lookup y.1).isSome = true) := by
    rintro ⟨n, v⟩ hy
    exact (Sc.par n (List.of_mem_zip hy).1).imp id fun q => ⟨q, PySem.W.cellsFrom_some _ _ _ (.inl q)⟩
  refine codeAny_call_function hr.r.depth (KX _ _ lk) rfl Sc.co Sc.gen rfl (PySem.W.codeRec_of KX hcd) (hB _ _ _ _ ?_)
  refine wpAny_newFunctionEnv_cells Sc.kind kinds fun env he s1 x' => ?_
  subst he
  refine ⟨lim.keeps x'.toInCall.keep, codeAny_func ?_⟩
  have b := body cdv A outer s H vs Q E (hr.deeper _) hsp
  have I : Inv (cxOf CX0 T.P T.w T.K T.mg T.base N x (defScope st) f cdv A outer s H E) [] (L2.start N vs) H s1 := inv_start Sc hr.r.hd e0 (len _ _ _ _ hsp) r x'
  have fin : ∀ {σ' : St} {H' : Hp} {v : V} {u : Value} {s' : Shared}, Inv (dcx T x st N f cdv A outer s H E) [] σ' H' s' → RelV v u → Q v H' → CE outer T.P T.w H s Q u s' :=
    fun J rv q => ⟨_, _, J.os, J.bare, J.base, J.hok, rv, q⟩
  refine wpAny_mono (b [] s1 (I.wish _)) (fun fl s' hs => ?_) fun e s' hs => False.elim hs
  cases fl with
  | ret u =>
    obtain ⟨v, σ', H', J, rv, q⟩ := hs
    exact fin J rv q
  | next =>
    obtain ⟨σ', H', J, q⟩ := hs
    exact fin (v := V.non) (u := Value.none) J rfl q
  | brk =>
    obtain ⟨_, _, _, q⟩ := hs
    exact False.elim q
  | cont =>
    obtain ⟨_, _, _, q⟩ := hs
    exact False.elim q
def absI (i : Int) : Int := if i < 0 then -i else i
/-- the bag is made of the script's numbers -/
def spBag (K : PySem.W.Frag) : Sp := fun vs H Q _ => ∃ (a : Addr) (ns : List Int), vs = [.ref a] ∧ SqL K H a (ns.map V.int) ∧ ns.length ≤ 63 ∧
  ∀ H' p q, Same H H' → H p = none → H q = none → p ≠ q → H' p = some (.lst [.int 0, .int 1234567891, .int 0, .ref q]) → H' q = some (.lst ((ns.map absI).map V.int)) → Q (.ref p) H'
theorem cut63 {ns : List Int} (h : ns.length ≤ 63) : cutV (ns.map V.int) none (some 63) = ns.map V.int := by
  unfold cutV
  rw [sx (by decide)]
  show ((ns.map V.int).drop 0).take (min (Int.toNat 63) (ns.map V.int).length - 0) = _
  rw [List.drop_zero, Nat.sub_zero, List.length_map, Nat.min_eq_right (by simpa using h), ← List.length_map (f := V.int), List.take_length]
end Z
namespace Z
open PySem PySem.Spec PyProof.Rows L2
theorem funD_fun {K : PySem.W.Frag} {x : Str} {st : Stmt} {f : Addr} {fd : FuncData} (F : FunD K x x (defArgs st) (defBody st) (defScope st) [] [] f fd) : Fun K x x st f fd := by
  obtain ⟨oc, od, dV, kV, doc, pm, an, cdv, ct, osl, e1, e2, e3, e4, _⟩ := F.ex
  rcases e4 with ⟨_, e4⟩ | ⟨e4, _⟩
  · subst e4
    exact ⟨⟨oc, od, kV, doc, pm, an, cdv, ct, osl, e1, e2, e3⟩, F.kp⟩
  · exact absurd rfl e4
def spLaw (K : PySem.W.Frag) : Sp := fun vs H Q _ => ∃ (a : Addr) (ns : List Int), vs = [.ref a] ∧ SqL K H a (ns.map V.int) ∧ ns.length ≤ 63 ∧ ∀ H', Q (.bl true) H'
def bag0 (ns : List Int) : Bag := ⟨0, 1234567891, 0, ns.map absI⟩
theorem bag0_good {ns : List Int} (h : ns.length ≤ 63) : (bag0 ns).Good := ⟨by show (0 : Int) ≤ 0; decide, by show (0 : Int) ≤ 1234567891; decide, by show (1234567891 : Int) < 2147483647; decide, by show (0 : Int) ≤ 0; decide, by show (ns.map absI).length ≤ 63; rw [List.length_map]; exact h, fun c hc => by
  obtain ⟨n, _, rfl⟩ := List.mem_map.mp hc
  unfold absI
  split <;> omega⟩
/-- the rest of a law's body, started with the bag alone -/
theorem law_rest {X : Cx} {st : List Stmt} {Γ : GS} {ns : List Int} {σ : St} {H : Hp} {p q : Addr} {Q : V → Hp → Prop} (h : ZSs X st Γ [bagO (bag0 ns)] { nx := fun _ _ => False, rt := fun w _ => w = .d (.bool true) })
    (np : p ≠ q) (hp : H p = some (.lst [.int 0, .int 1234567891, .int 0, .ref q])) (hq : H q = some (.lst ((ns.map absI).map V.int))) (hl : σ.length = Γ.length) (hs : σ[1]? = some (some (.ref p))) (hΓ : ∀ i w, Γ[i]? = some (some w) → i = 1 ∧ w = .m 0)
    (hQ : ∀ H', Q (.bl true) H') : wSs X st { nx := fun _ H' => Q .non H', rt := Q } σ H := by
  have nF : upd (fun _ => none) q (.lst ((ns.map absI).map V.int)) p = none := upd_ne np
  have R : Rep (upd (fun _ => none) q (.lst ((ns.map absI).map V.int))) H [p] [bagO (bag0 ns)] := by
    refine ⟨fun b x e => ?_, rfl, by simp, fun b hb => ?_, fun k a mo h1 h2 => ?_⟩
    · by_cases z : b = q
      · rw [z, upd_same] at e; cases e; rw [z]; exact hq
      · rw [upd_ne z] at e; cases e
    · rw [List.mem_singleton.mp hb]; exact ⟨_, hp⟩
    · cases k with
      | zero =>
        simp only [List.getElem?_cons_zero, Option.some.injEq] at h1 h2
        subst h1 h2
        refine .inr ⟨nF, _, hp, _, rfl, .cons (At.int 0) (.cons (At.int _) (.cons (At.int 0) (.cons ?_ .nil)))⟩
        exact At.lst upd_same .of_ints
      | succ k => simp at h1
  have S : Slots (upd (fun _ => none) q (.lst ((ns.map absI).map V.int))) [p] σ Γ := ⟨hl, fun i w e => by
    obtain ⟨rfl, rfl⟩ := hΓ i w e
    exact ⟨_, hs, RW.m rfl⟩⟩
  refine (h _ [p] σ H R S).mono ⟨?_, ?_, ?_, ?_⟩
  · rintro σ' H' ⟨_, _, _, _, _, _, _, q⟩
    exact False.elim q
  · rintro v H' ⟨_, _, _, w, _, _, r, rfl⟩
    rw [At.bl_ r]
    exact hQ H'
  · rintro σ' H' ⟨_, _, _, _, _, _, _, q⟩
    exact False.elim q
  · rintro σ' H' ⟨_, _, _, _, _, _, _, q⟩
    exact False.elim q
end Z

namespace K84
open PySem PySem.Spec PyProof.Rows L2 Z
abbrev topS (i : Nat) : Stmt := PySem.Challenge.pw_countsfall_k84_counts_behind_scripts.main.body.getD i (.Pass ⟨0, 0, 0, 0⟩)
abbrev s_p_marks_of : Stmt := topS 1
abbrev n_p_marks_of : List Str := ["script", "deed"]
theorem sc_p_marks_of : FnScope n_p_marks_of ["script"] (defScope s_p_marks_of) := ⟨rfl, rfl, rfl, by decide +kernel, rfl, by decide +kernel, by decide +kernel⟩
abbrev s_p_after_deed : Stmt := topS 2
abbrev n_p_after_deed : List Str := ["now", "deed", "number", "name"]
theorem sc_p_after_deed : FnScope n_p_after_deed ["now", "deed", "number"] (defScope s_p_after_deed) := ⟨rfl, rfl, rfl, by decide +kernel, rfl, by decide +kernel, by decide +kernel⟩
abbrev s_p_counts_behind : Stmt := topS 3
abbrev n_p_counts_behind : List Str := ["house", "script", "number", "counts", "names", "now", "deed", "name", "least", "most"]
theorem sc_p_counts_behind : FnScope n_p_counts_behind ["house", "script", "number", "counts"] (defScope s_p_counts_behind) := ⟨rfl, rfl, rfl, by decide +kernel, rfl, by decide +kernel, by decide +kernel⟩
abbrev s_p_do_deed : Stmt := topS 5
abbrev n_p_do_deed : List Str := ["table", "deed", "rows", "number"]
theorem sc_p_do_deed : FnScope n_p_do_deed ["table", "deed"] (defScope s_p_do_deed) := ⟨rfl, rfl, rfl, by decide +kernel, rfl, by decide +kernel, by decide +kernel⟩
abbrev s_p_done : Stmt := topS 6
abbrev n_p_done : List Str := ["house", "table", "script", "found", "deed", "name", "least", "most"]
theorem sc_p_done : FnScope n_p_done ["house", "table", "script"] (defScope s_p_done) := ⟨rfl, rfl, rfl, by decide +kernel, rfl, by decide +kernel, by decide +kernel⟩
abbrev s_bag : Stmt := topS 8
abbrev n_bag : List Str := ["_law_script_here", "_law_cell"]
theorem sc_bag : FnScope n_bag ["_law_script_here"] (defScope s_bag) := ⟨rfl, rfl, rfl, by decide +kernel, rfl, by decide +kernel, by decide +kernel⟩
abbrev s_take : Stmt := topS 9
abbrev n_take : List Str := ["_law_bag_here", "_law_many", "_law_cell", "_law_stirred", "_law_value", "_law_begin", "_law_second"]
theorem sc_take : FnScope n_take ["_law_bag_here", "_law_many"] (defScope s_take) := ⟨rfl, rfl, rfl, by decide +kernel, rfl, by decide +kernel, by decide +kernel⟩
abbrev s_one : Stmt := topS 10
abbrev n_one : List Str := ["_law_bag_here", "_law_things"]
theorem sc_one : FnScope n_one ["_law_bag_here", "_law_things"] (defScope s_one) := ⟨rfl, rfl, rfl, by decide +kernel, rfl, by decide +kernel, by decide +kernel⟩
abbrev s_mixed : Stmt := topS 11
abbrev n_mixed : List Str := ["_law_bag_here", "_law_things", "_law_found", "_law_thing"]
theorem sc_mixed : FnScope n_mixed ["_law_bag_here", "_law_things"] (defScope s_mixed) := ⟨rfl, rfl, rfl, by decide +kernel, rfl, by decide +kernel, by decide +kernel⟩
abbrev s_alike : Stmt := topS 12
abbrev n_alike : List Str := ["_law_found", "_law_due"]
theorem sc_alike : FnScope n_alike ["_law_found", "_law_due"] (defScope s_alike) := ⟨rfl, rfl, rfl, by decide +kernel, rfl, by decide +kernel, by decide +kernel⟩
abbrev s_names : Stmt := topS 13
abbrev n_names : List Str := ["_law_bag_here", "_law_many", "_law_menu"]
theorem sc_names : FnScope n_names ["_law_bag_here", "_law_many"] (defScope s_names) := ⟨rfl, rfl, rfl, by decide +kernel, rfl, by decide +kernel, by decide +kernel⟩
abbrev s_sort : Stmt := topS 14
abbrev n_sort : List Str := ["_law_bag_here", "_law_name", "_law_way", "_law_few"]
theorem sc_sort : FnScope n_sort ["_law_bag_here", "_law_name"] (defScope s_sort) := ⟨rfl, rfl, rfl, by decide +kernel, rfl, by decide +kernel, by decide +kernel⟩
abbrev s_house : Stmt := topS 15
abbrev n_house : List Str := ["_law_bag_here", "_law_most", "_law_name"]
theorem sc_house : FnScope n_house ["_law_bag_here", "_law_most"] (defScope s_house) := ⟨rfl, rfl, rfl, by decide +kernel, rfl, by decide +kernel, by decide +kernel⟩
abbrev s_numbers : Stmt := topS 16
abbrev n_numbers : List Str := ["_law_bag_here", "_law_low", "_law_step", "_law_place"]
theorem sc_numbers : FnScope n_numbers ["_law_bag_here"] (defScope s_numbers) := ⟨rfl, rfl, rfl, by decide +kernel, rfl, by decide +kernel, by decide +kernel⟩
abbrev s_size : Stmt := topS 17
abbrev n_size : List Str := ["_law_bag_here", "_law_sort_here", "_law_more_here", "_law_top"]
theorem sc_size : FnScope n_size ["_law_bag_here", "_law_sort_here", "_law_more_here"] (defScope s_size) := ⟨rfl, rfl, rfl, by decide +kernel, rfl, by decide +kernel, by decide +kernel⟩
abbrev s_table : Stmt := topS 18
abbrev n_table : List Str := ["_law_bag_here", "_law_house_here", "_law_pool", "_law_more_here", "_law_found", "_law_sort_here", "_law_row"]
theorem sc_table : FnScope n_table ["_law_bag_here", "_law_house_here", "_law_pool", "_law_more_here"] (defScope s_table) := ⟨rfl, rfl, rfl, by decide +kernel, rfl, by decide +kernel, by decide +kernel⟩
abbrev s_at : Stmt := topS 19
abbrev n_at : List Str := ["_law_house_here", "_law_table_here", "_law_number", "_law_sort_here", "_law_row"]
theorem sc_at : FnScope n_at ["_law_house_here", "_law_table_here", "_law_number"] (defScope s_at) := ⟨rfl, rfl, rfl, by decide +kernel, rfl, by decide +kernel, by decide +kernel⟩
abbrev s_within : Stmt := topS 20
abbrev n_within : List Str := ["_law_one_here", "_law_other", "_law_few", "_law_many"]
theorem sc_within : FnScope n_within ["_law_one_here", "_law_other"] (defScope s_within) := ⟨rfl, rfl, rfl, by decide +kernel, rfl, by decide +kernel, by decide +kernel⟩
abbrev s_deed : Stmt := topS 21
abbrev n_deed : List Str := ["_law_bag_here", "_law_house_here", "_law_pool", "_law_most", "_law_names_here", "_law_two", "_law_k", "_law_way", "_law_sort_here"]
theorem sc_deed : FnScope n_deed ["_law_bag_here", "_law_house_here", "_law_pool", "_law_most"] (defScope s_deed) := ⟨rfl, rfl, rfl, by decide +kernel, rfl, by decide +kernel, by decide +kernel⟩
abbrev s_script : Stmt := topS 22
abbrev n_script : List Str := ["_law_bag_here", "_law_house_here", "_law_pool", "_law_many", "_law_most", "_law_turn"]
theorem sc_script : FnScope n_script ["_law_bag_here", "_law_house_here", "_law_pool", "_law_many", "_law_most"] (defScope s_script) := ⟨rfl, rfl, rfl, by decide +kernel, rfl, by decide +kernel, by decide +kernel⟩
abbrev s_map : Stmt := topS 23
abbrev n_map : List Str := ["_law_house_here", "_law_script_here", "_law_number", "_law_counts", "_law_names_here", "_law_found", "_law_deed_here", "_law_at_here", "_law_word", "_law_sort_here"]
theorem sc_map : FnScope n_map ["_law_house_here", "_law_script_here", "_law_number", "_law_counts"] (defScope s_map) := ⟨rfl, rfl, rfl, by decide +kernel, rfl, by decide +kernel, by decide +kernel⟩
abbrev s_marks : Stmt := topS 24
abbrev n_marks : List Str := ["_law_script_here", "_law_deed_here"]
theorem sc_marks : FnScope n_marks ["_law_script_here"] (defScope s_marks) := ⟨rfl, rfl, rfl, by decide +kernel, rfl, by decide +kernel, by decide +kernel⟩
abbrev s_more : Stmt := topS 25
abbrev n_more : List Str := ["_law_bag_here", "_law_counts", "_law_many"]
theorem sc_more : FnScope n_more ["_law_bag_here", "_law_counts"] (defScope s_more) := ⟨rfl, rfl, rfl, by decide +kernel, rfl, by decide +kernel, by decide +kernel⟩
abbrev s_is_map_right : Stmt := topS 26
abbrev n_is_map_right : List Str := ["_law_bag_here", "_law_house_here", "_law_deeds", "_law_numbers_here", "_law_turn", "_law_counts", "_law_number", "_law_more_here", "_law_told", "_law_sort_here"]
theorem sc_is_map_right : FnScope n_is_map_right ["_law_bag_here", "_law_house_here", "_law_deeds", "_law_numbers_here"] (defScope s_is_map_right) := ⟨rfl, rfl, rfl, by decide +kernel, rfl, by decide +kernel, by decide +kernel⟩
abbrev s_p_law : Stmt := topS 27
abbrev n_p_law : List Str := ["_law_script_here", "_law_bag_here", "_law_turn", "_law_house_here", "_law_pool", "_law_table_here", "_law_deeds", "_law_marks_here", "_law_behind", "_law_shown", "_law_told", "_law_low", "_law_number", "_law_numbers_here", "_law_ahead"]
theorem sc_p_law : FnScope n_p_law ["_law_script_here"] (defScope s_p_law) := ⟨rfl, rfl, rfl, by decide +kernel, rfl, by decide +kernel, by decide +kernel⟩
end K84

namespace K84
open PySem PySem.Spec PyProof.Rows L2 Z
theorem nd_take : (n_take : List Str).Nodup := by decide +kernel
theorem f_take {T : Top} (bn : Bn T) (d : DefAt T "_law_take" s_take) : Fz T 1 "_law_take" ["_law_bag_here", "_law_many"] takeS := by
  refine fz_of d sc_take (fun _ _ _ _ _ _ us hl => match us, hl with | [_, _], _ => rfl) ?_
  intro f cdv A outer s H E ws M Φ hr _ hS
  have nd := nd_take
  obtain ⟨b, R, many, rfl, rfl, g, m0, m1, hΦ⟩ := hS
  have hΨ : ∀ r cur st ix : Int, 0 ≤ r → r < many → (Bag.mk cur st ix b.cells).Good → Φ (.d (.int r)) (MO.lst [.d (.int cur), .d (.int st), .d (.int ix), .d (.list (b.cells.map .int))] :: R) := fun r cur st ix h1 h2 h3 => hΦ r ⟨cur, st, ix, b.cells⟩ h1 h2 h3
  have gc := g.cur
  have gs := g.st
  have gs2 := g.st2
  have gi := g.ix
  refine zs_cons ?_
  refine zs_if ?_
  refine zt_cmp ?_
  refine zc_eq hr ?_
  refine ze_ix hr ?_
  refine ze_name 0 rfl ?_
  refine ze_int ?_
  refine IxW.cell rfl rfl ?_
  refine ze_int ?_
  refine ⟨_, _, rfl, rfl, rfl, rfl, ?_⟩
  refine ⟨_, rfl, ?_⟩
  refine ifeq (fun hc => ?_) (fun hc => ?_)
  · refine zs_cons ?_
    refine zs_set 2 (hN := nd) ?_
    refine ze_ix hr ?_
    refine ze_add ?_
    refine ze_sl ?_
    refine ze_ix hr ?_
    refine ze_name 0 rfl ?_
    refine ze_int ?_
    refine IxW.cell rfl rfl ?_
    refine zp_some ?_
    refine ze_ix hr ?_
    refine ze_name 0 rfl ?_
    refine ze_int ?_
    refine IxW.cell rfl rfl ?_
    refine ⟨_, rfl, ?_⟩
    refine zp_none ?_
    refine SlW.list ?_
    refine ze_lst ?_
    refine za_cons ?_
    refine ze_int ?_
    refine za_nil ?_
    refine ⟨[_], rfl, by decide, ?_⟩
    refine AddW.list (bag_size g _) ?_
    refine ze_int ?_
    obtain ⟨c, c0, hc⟩ := bag_head g
    refine IxW.list hc ?_
    refine zs_cons ?_
    refine zs_aug hr ip_add ?_
    refine ze_name 0 rfl ?_
    refine ze_int ?_
    refine .inl ⟨_, _, _, _, rfl, rfl, rfl, rfl, by decide, ?_⟩
    refine ze_int ?_
    refine ⟨_, _, rfl, rfl, .inl ⟨_, _, _, _, rfl, rfl, rfl, rfl, ?_⟩⟩
    refine zs_cons ?_
    refine zs_if ?_
    refine zt_cmp ?_
    refine zc_ge ?_
    refine ze_name 2 rfl ?_
    refine ze_pow ?_
    refine ze_int ?_
    refine ze_int ?_
    refine ⟨_, _, rfl, rfl, ⟨by decide, by decide, by decide⟩, ?_⟩
    refine ⟨_, _, rfl, rfl, ?_⟩
    refine ⟨_, rfl, ?_⟩
    refine ifd (fun hc => ?_) (fun hc => ?_)
    · refine zs_cons ?_
      refine zs_asg ?_
      refine ze_name 2 rfl ?_
      refine zg_sub hr ?_
      refine ze_name 0 rfl ?_
      refine ze_int ?_
      refine .inl ⟨_, _, _, _, rfl, rfl, rfl, rfl, ?_⟩
      refine zs_nil ?_
      refine zs_cons ?_
      refine zs_set 3 (hN := nd) ?_
      refine ze_add ?_
      refine ze_add ?_
      refine ze_mul ?_
      refine ze_ix hr ?_
      refine ze_name 0 rfl ?_
      refine ze_int ?_
      refine IxW.cell rfl rfl ?_
      refine ze_int ?_
      refine ⟨_, _, rfl, rfl, by first | exact .inr ⟨by first | decide | omega, by first | decide | omega⟩ | exact .inl ⟨by first | decide | omega, by first | decide | omega⟩, ?_⟩
      refine ze_mod ?_
      refine zk_int bn.int ?_
      refine ze_name 2 rfl ?_
      refine .inl ⟨_, rfl, ?_⟩
      refine ze_int ?_
      refine ⟨_, _, rfl, rfl, by omega, ?_⟩
      refine AddW.int ?_
      refine ze_mul ?_
      refine ze_int ?_
      refine ze_ix hr ?_
      refine ze_name 0 rfl ?_
      refine ze_int ?_
      refine IxW.cell rfl rfl ?_
      refine ⟨_, _, rfl, rfl, by first | exact .inr ⟨by first | decide | omega, by first | decide | omega⟩ | exact .inl ⟨by first | decide | omega, by first | decide | omega⟩, ?_⟩
      refine AddW.int ?_
      refine zs_cons ?_
      refine zs_asg ?_
      refine ze_mod ?_
      refine zk_int bn.int ?_
      refine ze_name 3 rfl ?_
      refine .inl ⟨_, rfl, ?_⟩
      refine ze_int ?_
      refine ⟨_, _, rfl, rfl, by omega, ?_⟩
      refine zg_sub hr ?_
      refine ze_name 0 rfl ?_
      refine ze_int ?_
      refine .inl ⟨_, _, _, _, rfl, rfl, rfl, rfl, ?_⟩
      refine zs_nil ?_
      refine zs_cons ?_
      refine zs_if ?_
      refine zt_cmp ?_
      refine zc_gt ?_
      refine ze_ix hr ?_
      refine ze_name 0 rfl ?_
      refine ze_int ?_
      refine IxW.cell rfl rfl ?_
      refine ze_int ?_
      refine ⟨_, _, rfl, rfl, ?_⟩
      refine ⟨_, rfl, ?_⟩
      refine ifd (fun hc => ?_) (fun hc => ?_)
      · refine zs_cons ?_
        refine zs_set 4 (hN := nd) ?_
        refine ze_mod ?_
        refine zk_int bn.int ?_
        refine ze_ix hr ?_
        refine ze_name 0 rfl ?_
        refine ze_int ?_
        refine IxW.cell rfl rfl ?_
        refine .inl ⟨_, rfl, ?_⟩
        refine ze_name 1 rfl ?_
        refine ⟨_, _, rfl, rfl, by omega, ?_⟩
        refine zs_cons ?_
        refine zs_asg ?_
        refine ze_fdiv ?_
        refine zk_int bn.int ?_
        refine ze_ix hr ?_
        refine ze_name 0 rfl ?_
        refine ze_int ?_
        refine IxW.cell rfl rfl ?_
        refine .inl ⟨_, rfl, ?_⟩
        refine ze_name 1 rfl ?_
        refine ⟨_, _, rfl, rfl, ⟨by omega, by omega⟩, ?_⟩
        refine zg_sub hr ?_
        refine ze_name 0 rfl ?_
        refine ze_int ?_
        refine .inl ⟨_, _, _, _, rfl, rfl, rfl, rfl, ?_⟩
        refine zs_cons ?_
        refine zs_ret ?_
        refine ze_name 4 rfl ?_
        refine hΨ _ _ _ _ ?_ ?_ ?_
        · exact Int.emod_nonneg _ (by omega)
        · exact Int.emod_lt_of_pos _ m0
        · refine ⟨?_, ?_, ?_, ?_, g.len, g.all⟩ <;> dsimp only <;> first | omega | exact Int.ediv_nonneg (by omega) (by omega) | exact Int.emod_nonneg _ (by decide) | exact Int.emod_lt_of_pos _ (by decide)
      · refine zs_nil ?_
        refine zs_cons ?_
        refine zs_set 5 (hN := nd) ?_
        refine ze_mod ?_
        refine zk_int bn.int ?_
        refine ze_mul ?_
        refine ze_add ?_
        refine ze_ix hr ?_
        refine ze_name 0 rfl ?_
        refine ze_int ?_
        refine IxW.cell rfl rfl ?_
        refine ze_int ?_
        refine AddW.int ?_
        refine ze_int ?_
        refine ⟨_, _, rfl, rfl, by first | exact .inr ⟨by first | decide | omega, by first | decide | omega⟩ | exact .inl ⟨by first | decide | omega, by first | decide | omega⟩, ?_⟩
        refine .inl ⟨_, rfl, ?_⟩
        refine ze_int ?_
        refine ⟨_, _, rfl, rfl, by omega, ?_⟩
        refine zs_cons ?_
        refine zs_set 6 (hN := nd) ?_
        refine ze_mod ?_
        refine zk_int bn.int ?_
        refine ze_mul ?_
        refine ze_mod ?_
        refine zk_int bn.int ?_
        refine ze_mul ?_
        refine ze_name 5 rfl ?_
        refine ze_name 5 rfl ?_
        refine ⟨_, _, rfl, rfl, .inr ⟨by omega, by omega⟩, ?_⟩
        refine .inl ⟨_, rfl, ?_⟩
        refine ze_int ?_
        refine ⟨_, _, rfl, rfl, by omega, ?_⟩
        refine ze_int ?_
        refine ⟨_, _, rfl, rfl, by first | exact .inr ⟨by first | decide | omega, by first | decide | omega⟩ | exact .inl ⟨by first | decide | omega, by first | decide | omega⟩, ?_⟩
        refine .inl ⟨_, rfl, ?_⟩
        refine ze_int ?_
        refine ⟨_, _, rfl, rfl, by omega, ?_⟩
        refine zs_cons ?_
        refine zs_ret ?_
        refine ze_mod ?_
        refine zk_int bn.int ?_
        refine ze_fdiv ?_
        refine ze_name 6 rfl ?_
        refine ze_int ?_
        refine ⟨_, _, rfl, rfl, ⟨by omega, by omega⟩, ?_⟩
        refine .inl ⟨_, rfl, ?_⟩
        refine ze_name 1 rfl ?_
        refine ⟨_, _, rfl, rfl, by omega, ?_⟩
        refine hΨ _ _ _ _ ?_ ?_ ?_
        · exact Int.emod_nonneg _ (by omega)
        · exact Int.emod_lt_of_pos _ m0
        · refine ⟨?_, ?_, ?_, ?_, g.len, g.all⟩ <;> dsimp only <;> first | omega | exact Int.ediv_nonneg (by omega) (by omega) | exact Int.emod_nonneg _ (by decide) | exact Int.emod_lt_of_pos _ (by decide)
    · refine zs_nil ?_
      refine zs_cons ?_
      refine zs_set 3 (hN := nd) ?_
      refine ze_add ?_
      refine ze_add ?_
      refine ze_mul ?_
      refine ze_ix hr ?_
      refine ze_name 0 rfl ?_
      refine ze_int ?_
      refine IxW.cell rfl rfl ?_
      refine ze_int ?_
      refine ⟨_, _, rfl, rfl, by first | exact .inr ⟨by first | decide | omega, by first | decide | omega⟩ | exact .inl ⟨by first | decide | omega, by first | decide | omega⟩, ?_⟩
      refine ze_mod ?_
      refine zk_int bn.int ?_
      refine ze_name 2 rfl ?_
      refine .inl ⟨_, rfl, ?_⟩
      refine ze_int ?_
      refine ⟨_, _, rfl, rfl, by omega, ?_⟩
      refine AddW.int ?_
      refine ze_mul ?_
      refine ze_int ?_
      refine ze_ix hr ?_
      refine ze_name 0 rfl ?_
      refine ze_int ?_
      refine IxW.cell rfl rfl ?_
      refine ⟨_, _, rfl, rfl, by first | exact .inr ⟨by first | decide | omega, by first | decide | omega⟩ | exact .inl ⟨by first | decide | omega, by first | decide | omega⟩, ?_⟩
      refine AddW.int ?_
      refine zs_cons ?_
      refine zs_asg ?_
      refine ze_mod ?_
      refine zk_int bn.int ?_
      refine ze_name 3 rfl ?_
      refine .inl ⟨_, rfl, ?_⟩
      refine ze_int ?_
      refine ⟨_, _, rfl, rfl, by omega, ?_⟩
      refine zg_sub hr ?_
      refine ze_name 0 rfl ?_
      refine ze_int ?_
      refine .inl ⟨_, _, _, _, rfl, rfl, rfl, rfl, ?_⟩
      refine zs_nil ?_
      refine zs_cons ?_
      refine zs_if ?_
      refine zt_cmp ?_
      refine zc_gt ?_
      refine ze_ix hr ?_
      refine ze_name 0 rfl ?_
      refine ze_int ?_
      refine IxW.cell rfl rfl ?_
      refine ze_int ?_
      refine ⟨_, _, rfl, rfl, ?_⟩
      refine ⟨_, rfl, ?_⟩
      refine ifd (fun hc => ?_) (fun hc => ?_)
      · refine zs_cons ?_
        refine zs_set 4 (hN := nd) ?_
        refine ze_mod ?_
        refine zk_int bn.int ?_
        refine ze_ix hr ?_
        refine ze_name 0 rfl ?_
        refine ze_int ?_
        refine IxW.cell rfl rfl ?_
        refine .inl ⟨_, rfl, ?_⟩
        refine ze_name 1 rfl ?_
        refine ⟨_, _, rfl, rfl, by omega, ?_⟩
        refine zs_cons ?_
        refine zs_asg ?_
        refine ze_fdiv ?_
        refine zk_int bn.int ?_
        refine ze_ix hr ?_
        refine ze_name 0 rfl ?_
        refine ze_int ?_
        refine IxW.cell rfl rfl ?_
        refine .inl ⟨_, rfl, ?_⟩
        refine ze_name 1 rfl ?_
        refine ⟨_, _, rfl, rfl, ⟨by omega, by omega⟩, ?_⟩
        refine zg_sub hr ?_
        refine ze_name 0 rfl ?_
        refine ze_int ?_
        refine .inl ⟨_, _, _, _, rfl, rfl, rfl, rfl, ?_⟩
        refine zs_cons ?_
        refine zs_ret ?_
        refine ze_name 4 rfl ?_
        refine hΨ _ _ _ _ ?_ ?_ ?_
        · exact Int.emod_nonneg _ (by omega)
        · exact Int.emod_lt_of_pos _ m0
        · refine ⟨?_, ?_, ?_, ?_, g.len, g.all⟩ <;> dsimp only <;> first | omega | exact Int.ediv_nonneg (by omega) (by omega) | exact Int.emod_nonneg _ (by decide) | exact Int.emod_lt_of_pos _ (by decide)
      · refine zs_nil ?_
        refine zs_cons ?_
        refine zs_set 5 (hN := nd) ?_
        refine ze_mod ?_
        refine zk_int bn.int ?_
        refine ze_mul ?_
        refine ze_add ?_
        refine ze_ix hr ?_
        refine ze_name 0 rfl ?_
        refine ze_int ?_
        refine IxW.cell rfl rfl ?_
        refine ze_int ?_
        refine AddW.int ?_
        refine ze_int ?_
        refine ⟨_, _, rfl, rfl, by first | exact .inr ⟨by first | decide | omega, by first | decide | omega⟩ | exact .inl ⟨by first | decide | omega, by first | decide | omega⟩, ?_⟩
        refine .inl ⟨_, rfl, ?_⟩
        refine ze_int ?_
        refine ⟨_, _, rfl, rfl, by omega, ?_⟩
        refine zs_cons ?_
        refine zs_set 6 (hN := nd) ?_
        refine ze_mod ?_
        refine zk_int bn.int ?_
        refine ze_mul ?_
        refine ze_mod ?_
        refine zk_int bn.int ?_
        refine ze_mul ?_
        refine ze_name 5 rfl ?_
        refine ze_name 5 rfl ?_
        refine ⟨_, _, rfl, rfl, .inr ⟨by omega, by omega⟩, ?_⟩
        refine .inl ⟨_, rfl, ?_⟩
        refine ze_int ?_
        refine ⟨_, _, rfl, rfl, by omega, ?_⟩
        refine ze_int ?_
        refine ⟨_, _, rfl, rfl, by first | exact .inr ⟨by first | decide | omega, by first | decide | omega⟩ | exact .inl ⟨by first | decide | omega, by first | decide | omega⟩, ?_⟩
        refine .inl ⟨_, rfl, ?_⟩
        refine ze_int ?_
        refine ⟨_, _, rfl, rfl, by omega, ?_⟩
        refine zs_cons ?_
        refine zs_ret ?_
        refine ze_mod ?_
        refine zk_int bn.int ?_
        refine ze_fdiv ?_
        refine ze_name 6 rfl ?_
        refine ze_int ?_
        refine ⟨_, _, rfl, rfl, ⟨by omega, by omega⟩, ?_⟩
        refine .inl ⟨_, rfl, ?_⟩
        refine ze_name 1 rfl ?_
        refine ⟨_, _, rfl, rfl, by omega, ?_⟩
        refine hΨ _ _ _ _ ?_ ?_ ?_
        · exact Int.emod_nonneg _ (by omega)
        · exact Int.emod_lt_of_pos _ m0
        · refine ⟨?_, ?_, ?_, ?_, g.len, g.all⟩ <;> dsimp only <;> first | omega | exact Int.ediv_nonneg (by omega) (by omega) | exact Int.emod_nonneg _ (by decide) | exact Int.emod_lt_of_pos _ (by decide)
  · refine zs_nil ?_
    refine zs_cons ?_
    refine zs_if ?_
    refine zt_cmp ?_
    refine zc_gt ?_
    refine ze_ix hr ?_
    refine ze_name 0 rfl ?_
    refine ze_int ?_
    refine IxW.cell rfl rfl ?_
    refine ze_int ?_
    refine ⟨_, _, rfl, rfl, ?_⟩
    refine ⟨_, rfl, ?_⟩
    refine ifd (fun hc => ?_) (fun hc => ?_)
    · refine zs_cons ?_
      refine zs_set 4 (hN := nd) ?_
      refine ze_mod ?_
      refine zk_int bn.int ?_
      refine ze_ix hr ?_
      refine ze_name 0 rfl ?_
      refine ze_int ?_
      refine IxW.cell rfl rfl ?_
      refine .inl ⟨_, rfl, ?_⟩
      refine ze_name 1 rfl ?_
      refine ⟨_, _, rfl, rfl, by omega, ?_⟩
      refine zs_cons ?_
      refine zs_asg ?_
      refine ze_fdiv ?_
      refine zk_int bn.int ?_
      refine ze_ix hr ?_
      refine ze_name 0 rfl ?_
      refine ze_int ?_
      refine IxW.cell rfl rfl ?_
      refine .inl ⟨_, rfl, ?_⟩
      refine ze_name 1 rfl ?_
      refine ⟨_, _, rfl, rfl, ⟨by omega, by omega⟩, ?_⟩
      refine zg_sub hr ?_
      refine ze_name 0 rfl ?_
      refine ze_int ?_
      refine .inl ⟨_, _, _, _, rfl, rfl, rfl, rfl, ?_⟩
      refine zs_cons ?_
      refine zs_ret ?_
      refine ze_name 4 rfl ?_
      refine hΨ _ _ _ _ ?_ ?_ ?_
      · exact Int.emod_nonneg _ (by omega)
      · exact Int.emod_lt_of_pos _ m0
      · refine ⟨?_, ?_, ?_, ?_, g.len, g.all⟩ <;> dsimp only <;> first | omega | exact Int.ediv_nonneg (by omega) (by omega) | exact Int.emod_nonneg _ (by decide) | exact Int.emod_lt_of_pos _ (by decide)
    · refine zs_nil ?_
      refine zs_cons ?_
      refine zs_set 5 (hN := nd) ?_
      refine ze_mod ?_
      refine zk_int bn.int ?_
      refine ze_mul ?_
      refine ze_add ?_
      refine ze_ix hr ?_
      refine ze_name 0 rfl ?_
      refine ze_int ?_
      refine IxW.cell rfl rfl ?_
      refine ze_int ?_
      refine AddW.int ?_
      refine ze_int ?_
      refine ⟨_, _, rfl, rfl, by first | exact .inr ⟨by first | decide | omega, by first | decide | omega⟩ | exact .inl ⟨by first | decide | omega, by first | decide | omega⟩, ?_⟩
      refine .inl ⟨_, rfl, ?_⟩
      refine ze_int ?_
      refine ⟨_, _, rfl, rfl, by omega, ?_⟩
      refine zs_cons ?_
      refine zs_set 6 (hN := nd) ?_
      refine ze_mod ?_
      refine zk_int bn.int ?_
      refine ze_mul ?_
      refine ze_mod ?_
      refine zk_int bn.int ?_
      refine ze_mul ?_
      refine ze_name 5 rfl ?_
      refine ze_name 5 rfl ?_
      refine ⟨_, _, rfl, rfl, .inr ⟨by omega, by omega⟩, ?_⟩
      refine .inl ⟨_, rfl, ?_⟩
      refine ze_int ?_
      refine ⟨_, _, rfl, rfl, by omega, ?_⟩
      refine ze_int ?_
      refine ⟨_, _, rfl, rfl, by first | exact .inr ⟨by first | decide | omega, by first | decide | omega⟩ | exact .inl ⟨by first | decide | omega, by first | decide | omega⟩, ?_⟩
      refine .inl ⟨_, rfl, ?_⟩
      refine ze_int ?_
      refine ⟨_, _, rfl, rfl, by omega, ?_⟩
      refine zs_cons ?_
      refine zs_ret ?_
      refine ze_mod ?_
      refine zk_int bn.int ?_
      refine ze_fdiv ?_
      refine ze_name 6 rfl ?_
      refine ze_int ?_
      refine ⟨_, _, rfl, rfl, ⟨by omega, by omega⟩, ?_⟩
      refine .inl ⟨_, rfl, ?_⟩
      refine ze_name 1 rfl ?_
      refine ⟨_, _, rfl, rfl, by omega, ?_⟩
      refine hΨ _ _ _ _ ?_ ?_ ?_
      · exact Int.emod_nonneg _ (by omega)
      · exact Int.emod_lt_of_pos _ m0
      · refine ⟨?_, ?_, ?_, ?_, g.len, g.all⟩ <;> dsimp only <;> first | omega | exact Int.ediv_nonneg (by omega) (by omega) | exact Int.emod_nonneg _ (by decide) | exact Int.emod_lt_of_pos _ (by decide)
end K84

namespace K84
open PySem PySem.Spec PyProof.Rows L2 Z
theorem nd_one : (n_one : List Str).Nodup := by decide +kernel
theorem f_one {T : Top} (bn : Bn T) (d : DefAt T "_law_one" s_one) (c_take : Fz T 1 "_law_take" ["_law_bag_here", "_law_many"] takeS) : Fz T 2 "_law_one" ["_law_bag_here", "_law_things"] oneS := by
  refine fz_of d sc_one (fun _ _ _ _ _ _ us hl => match us, hl with | [_, _], _ => rfl) ?_
  intro f cdv A outer s H E ws M Φ hr _ hS
  have nd := nd_one
  obtain ⟨b, R, w, ds, rfl, rfl, hw, g, n0, n1, hΦ⟩ := hS
  refine zs_cons ?_
  refine zs_ret ?_
  refine ze_ix hr ?_
  refine ze_name 1 rfl ?_
  refine ze_call (c_take.mono (by decide)) ⟨rfl, rfl, rfl, rfl, rfl⟩ hr ?_
  refine za_cons ?_
  refine ze_name 0 rfl ?_
  refine za_cons ?_
  refine zk_len bn.len ?_
  refine ze_name 1 rfl ?_
  refine ⟨_, .inl ⟨ds, hw, rfl⟩, ?_⟩
  refine za_nil ?_
  refine ⟨rfl, ?_⟩
  refine ⟨b, R, _, rfl, rfl, g, by omega, by omega, fun r b1 r0 r1 g1 => ?_⟩
  obtain ⟨d, hd, hm⟩ := atI_get r0 r1
  exact .inl ⟨ds, r, d, hw, rfl, hd, hΦ d b1 hm g1⟩
  skip
theorem nd_mixed : (n_mixed : List Str).Nodup := by decide +kernel
theorem f_mixed {T : Top} (bn : Bn T) (d : DefAt T "_law_mixed" s_mixed) (c_take : Fz T 1 "_law_take" ["_law_bag_here", "_law_many"] takeS) : Fz T 2 "_law_mixed" ["_law_bag_here", "_law_things"] mixedS := by
  refine fz_of d sc_mixed (fun _ _ _ _ _ _ us hl => match us, hl with | [_, _], _ => rfl) ?_
  intro f cdv A outer s H E ws M Φ hr _ hS
  have nd := nd_mixed
  obtain ⟨b, R, w, ds, rfl, rfl, hw, g, n1, hΦ⟩ := hS
  refine zs_cl fun cl => ?_
  refine zs_fin ?_
  refine zs_cons ?_
  refine zs_set 2 (hN := nd) ?_
  refine ze_lstM ?_
  refine za_nil ?_
  refine ⟨by decide, ?_⟩
  refine zs_cons ?_
  refine zs_for PassesOwn.never rfl ?_
  refine zi_seq ?_
  refine ze_name 1 rfl ?_
  refine ⟨ds, hw, ?_⟩
  refine ⟨fun i Γ1 M1 => ∃ (o : Option W) (b1 : Bag) (es : List PyData), Γ1 = [some (.m 0), some w, some (.m (R.length + 1)), o] ∧ M1 = bagO b1 :: (R ++ [.lst (es.map .d)]) ∧ b1.Good ∧ es.Perm (ds.take i), ⟨?_, fun i d Γ1 M1 hd hI => ?_, fun Γ1 M1 hI => ?_⟩⟩
  · exact ⟨none, b, [], rfl, rfl, g, by simp⟩
  · obtain ⟨o, b1, es, rfl, rfl, g1, pm⟩ := hI
    have hl := pm.length_eq
    have hl2 : (es.map W.d).length < 1000 := by rw [List.length_map, hl, List.length_take]; omega
    have hds : ds.take (i + 1) = ds.take i ++ [d] := by rw [List.take_add_one, hd]; rfl
    refine zg_name 3 (hN := nd) ?_
    refine zs_cons ?_
    refine zs_expr ?_
    refine zm_insert ?_
    refine ze_name 2 rfl ?_
    refine ⟨.inr ⟨R.length + 1, _, rfl, at_end (bagO b1 :: R) _⟩, ?_⟩
    refine ze_call (c_take.mono (by decide)) ⟨rfl, rfl, rfl, rfl, rfl⟩ hr ?_
    refine za_cons ?_
    refine ze_name 0 rfl ?_
    refine za_cons ?_
    refine ze_add ?_
    refine zk_len bn.len ?_
    refine ze_name 2 rfl ?_
    refine ⟨_, .inr (.inl ⟨R.length + 1, _, rfl, at_end (bagO b1 :: R) _, rfl⟩), ?_⟩
    refine ze_int ?_
    refine AddW.int ?_
    refine za_nil ?_
    refine ⟨rfl, ?_⟩
    refine ⟨b1, _, _, rfl, rfl, g1, by omega, by omega, fun r b2 r0 r1 g2 => ?_⟩
    refine ze_name 3 rfl ?_
    refine ⟨R.length + 1, _, r, rfl, rfl, at_end (bagO b2 :: R) _, by unfold sizeLine; omega, r0, by omega, ?_⟩
    refine zs_nil ?_
    refine ⟨_, b2, es.take r.toNat ++ [d] ++ es.drop r.toNat, rfl, (set_end (bagO b2 :: R) _ _).trans (by simp [List.map_take, List.map_drop]), g2, ?_⟩
    rw [hds]
    exact (perm_insert es _ d).trans (pm.append_right [d])
  · obtain ⟨o, b1, es, rfl, rfl, g1, pm⟩ := hI
    rw [List.take_length] at pm
    refine zs_cons ?_
    refine zs_ret ?_
    refine ze_name 2 rfl ?_
    exact fin_list (A := bagO b1 :: R) (Nat.le_refl _) (cl_bag cl) (hΦ es b1 pm g1)
end K84

namespace K84
open PySem PySem.Spec PyProof.Rows L2 Z
theorem low_ok : ∀ n ∈ ([0, -2, 5, 0, 1 - 10 ^ Int.toNat 30] : List Int), -1000000000000000000000000000000 ≤ n ∧ n ≤ 5 := by decide +kernel
theorem step_ok : ∀ n ∈ ([1, 2, 1, 3, 10 ^ Int.toNat 29] : List Int), 1 ≤ n ∧ n ≤ 100000000000000000000000000000 := by decide +kernel
theorem pool_ok {low step r : Int} (h : -1000000000000000000000000000000 ≤ low ∧ low ≤ 5) (h2 : 1 ≤ step ∧ step ≤ 100000000000000000000000000000) (r0 : 0 ≤ r) (r1 : r < 7) : PoolOk ((List.range (1 + r).toNat).map fun (i : Nat) => low + step * (i : Int)) := by
  refine ⟨fun z => ?_, by rw [List.length_map, List.length_range]; omega, fun n hn => ?_⟩
  · have := congrArg List.length z
    rw [List.length_map, List.length_range] at this
    simp at this
    omega
  · obtain ⟨i, hi, rfl⟩ := List.mem_map.mp hn
    have hi2 := List.mem_range.mp hi
    have hi3 : (i : Int) ≤ 7 := by omega
    have a : 0 ≤ step * (i : Int) := Int.mul_nonneg (by omega) (by omega)
    have c : step * (i : Int) ≤ 100000000000000000000000000000 * 7 := Int.mul_le_mul h2.2 hi3 (by omega) (by decide)
    unfold numB
    omega
theorem nd_names : (n_names : List Str).Nodup := by decide +kernel
theorem f_names {T : Top} (bn : Bn T) (d : DefAt T "_law_names" s_names) (c_mixed : Fz T 2 "_law_mixed" ["_law_bag_here", "_law_things"] mixedS) : Fz T 3 "_law_names" ["_law_bag_here", "_law_many"] namesS := by
  refine fz_of d sc_names (fun _ _ _ _ _ _ us hl => match us, hl with | [_, _], _ => rfl) ?_
  intro f cdv A outer s H E ws M Φ hr _ hS
  have nd := nd_names
  obtain ⟨b0, R, many, rfl, rfl, g0, m0, m1, hΦ⟩ := hS
  refine zs_cons ?_
  refine zs_set 2 ?_ ?_ ?_ ?_ ?_ ?_
  rotate_left 1
  · exact nd
  · rfl
  · first | exact Or.inl rfl | exact Or.inr rfl
  · rfl
  · first | exact Or.inl rfl | exact Or.inr rfl
  refine ze_lst ?_
  refine za_cons ?_
  refine ze_str ?_
  refine za_cons ?_
  refine ze_str ?_
  refine za_cons ?_
  refine ze_str ?_
  refine za_cons ?_
  refine ze_str ?_
  refine za_cons ?_
  refine ze_str ?_
  refine za_cons ?_
  refine ze_str ?_
  refine za_cons ?_
  refine ze_str ?_
  refine za_cons ?_
  refine ze_str ?_
  refine za_cons ?_
  refine ze_str ?_
  refine za_cons ?_
  refine ze_str ?_
  refine za_cons ?_
  refine ze_str ?_
  refine za_cons ?_
  refine ze_str ?_
  refine za_cons ?_
  refine ze_str ?_
  refine za_nil ?_
  refine ⟨[_, _, _, _, _, _, _, _, _, _, _, _, _], rfl, Nat.le_of_ble_eq_true rfl, ?_⟩
  refine zs_cons ?_
  refine zs_set 2 (hN := nd) ?_
  refine ze_add ?_
  refine ze_name 2 rfl ?_
  refine ze_lst ?_
  refine za_cons ?_
  refine ze_str ?_
  refine za_cons ?_
  refine ze_str ?_
  refine za_cons ?_
  refine ze_str ?_
  refine za_cons ?_
  refine ze_str ?_
  refine za_nil ?_
  refine ⟨[_, _, _, _], rfl, Nat.le_of_ble_eq_true rfl, ?_⟩
  refine AddW.list (Nat.le_of_ble_eq_true rfl) ?_
  refine zs_cons ?_
  refine zs_ret ?_
  refine zk_tuple bn.tuple ?_
  refine zk_sorted bn.sorted ?_
  refine ze_sl ?_
  refine ze_call (c_mixed.mono (by decide)) ⟨rfl, rfl, rfl, rfl, rfl⟩ hr ?_
  refine za_cons ?_
  refine ze_name 0 rfl ?_
  refine za_cons ?_
  refine ze_name 2 rfl ?_
  refine za_nil ?_
  refine ⟨rfl, ?_⟩
  refine ⟨b0, R, _, menu.map .str, rfl, rfl, .inl rfl, g0, by decide, fun es b1 pm g1 => ?_⟩
  obtain ⟨ss, rfl, ps⟩ := perm_strs pm
  have hl : ss.length = 17 := by rw [ps.length_eq]; rfl
  refine zp_none ?_
  refine zp_some ?_
  refine ze_name 1 rfl ?_
  refine ⟨_, rfl, ?_⟩
  refine SlW.list ?_
  rw [cutD_map, cut_take _ (by omega)]
  refine .inr ⟨ss.take many.toNat, .inl rfl, fun _ z => (by cases z), by rw [List.length_take]; omega, ?_⟩
  refine ⟨_, .inl rfl, ?_⟩
  obtain ⟨e1, e2, e3⟩ := names_end ps m0 m1
  exact hΦ _ b1 e1 e2 e3 g1
theorem nd_sort : (n_sort : List Str).Nodup := by decide +kernel
theorem f_sort {T : Top} (bn : Bn T) (d : DefAt T "_law_sort" s_sort) (c_take : Fz T 1 "_law_take" ["_law_bag_here", "_law_many"] takeS) (c_one : Fz T 2 "_law_one" ["_law_bag_here", "_law_things"] oneS) : Fz T 3 "_law_sort" ["_law_bag_here", "_law_name"] sortRowS := by
  refine fz_of d sc_sort (fun _ _ _ _ _ _ us hl => match us, hl with | [_, _], _ => rfl) ?_
  intro f cdv A outer s H E ws M Φ hr _ hS
  have nd := nd_sort
  obtain ⟨b0, R, nm, rfl, rfl, g0, hΦ⟩ := hS
  refine zs_cons ?_
  refine zs_par 2 3 rfl (hN := nd) ?_
  refine ze_call (c_take.mono (by decide)) ⟨rfl, rfl, rfl, rfl, rfl⟩ hr ?_
  refine za_cons ?_
  refine ze_name 0 rfl ?_
  refine za_cons ?_
  refine ze_int ?_
  refine za_nil ?_
  refine ⟨rfl, ?_⟩
  refine ⟨b0, R, 7, rfl, rfl, g0, by omega, by omega, fun way b1 w0 w1 g1 => ?_⟩
  refine ze_call (c_one.mono (by decide)) ⟨rfl, rfl, rfl, rfl, rfl⟩ hr ?_
  refine za_cons ?_
  refine ze_name 0 rfl ?_
  refine za_cons ?_
  refine ze_lst ?_
  refine za_cons ?_
  refine ze_int ?_
  refine za_cons ?_
  refine ze_int ?_
  refine za_cons ?_
  refine ze_int ?_
  refine za_cons ?_
  refine ze_int ?_
  refine za_cons ?_
  refine ze_int ?_
  refine za_nil ?_
  refine ⟨[_, _, _, _, _], rfl, Nat.le_of_ble_eq_true rfl, ?_⟩
  refine za_nil ?_
  refine ⟨rfl, ?_⟩
  refine ⟨b1, R, _, _, rfl, rfl, .inl rfl, g1, by decide, by decide, fun d b2 hd g2 => ?_⟩
  obtain ⟨few, hf, rfl⟩ := mem_ints (ns := [0, 1, 2, 1, 3]) hd
  have hf2 : 0 ≤ few ∧ few ≤ 3 := by simp at hf; omega
  refine zs_cons ?_
  refine zs_if ?_
  refine zt_cmp ?_
  refine zc_lt ?_
  refine ze_name 2 rfl ?_
  refine ze_int ?_
  refine ⟨_, _, rfl, rfl, ?_⟩
  refine ⟨_, rfl, ?_⟩
  first | refine ifeq (fun hc => ?_) (fun hc => ?_) | refine ifeqs (fun hc => ?_) (fun hc => ?_) | refine ifd (fun hc => ?_) (fun hc => ?_) | refine ifb (fun hc => ?_) (fun hc => ?_)
  · refine zs_cons ?_
    refine zs_ret ?_
    refine ze_tup ?_
    refine za_cons ?_
    refine ze_name 1 rfl ?_
    refine za_cons ?_
    refine ze_int ?_
    refine za_cons ?_
    refine ze_int ?_
    refine za_nil ?_
    refine ⟨[_, _, _], rfl, Nat.le_of_ble_eq_true rfl, ?_⟩
    exact hΦ 1 (some 1) b2 (rowOk (by decide) (by decide) fun x e => by cases e; decide) g2
  · refine zs_nil ?_
    refine zs_cons ?_
    refine zs_if ?_
    refine zt_cmp ?_
    refine zc_eq hr ?_
    refine ze_name 2 rfl ?_
    refine ze_int ?_
    refine ⟨_, _, rfl, rfl, rfl, rfl, ?_⟩
    refine ⟨_, rfl, ?_⟩
    first | refine ifeq (fun hc => ?_) (fun hc => ?_) | refine ifeqs (fun hc => ?_) (fun hc => ?_) | refine ifd (fun hc => ?_) (fun hc => ?_) | refine ifb (fun hc => ?_) (fun hc => ?_)
    · refine zs_cons ?_
      refine zs_ret ?_
      refine ze_tup ?_
      refine za_cons ?_
      refine ze_name 1 rfl ?_
      refine za_cons ?_
      refine ze_name 3 rfl ?_
      refine za_cons ?_
      refine ze_name 3 rfl ?_
      refine za_nil ?_
      refine ⟨[_, _, _], rfl, Nat.le_of_ble_eq_true rfl, ?_⟩
      exact hΦ few (some few) b2 (rowOk hf2.1 hf2.2 fun x e => by cases e; omega) g2
    · refine zs_nil ?_
      refine zs_cons ?_
      refine zs_if ?_
      refine zt_cmp ?_
      refine zc_eq hr ?_
      refine ze_name 2 rfl ?_
      refine ze_int ?_
      refine ⟨_, _, rfl, rfl, rfl, rfl, ?_⟩
      refine ⟨_, rfl, ?_⟩
      first | refine ifeq (fun hc => ?_) (fun hc => ?_) | refine ifeqs (fun hc => ?_) (fun hc => ?_) | refine ifd (fun hc => ?_) (fun hc => ?_) | refine ifb (fun hc => ?_) (fun hc => ?_)
      · refine zs_cons ?_
        refine zs_ret ?_
        refine ze_tup ?_
        refine za_cons ?_
        refine ze_name 1 rfl ?_
        refine za_cons ?_
        refine ze_int ?_
        refine za_cons ?_
        refine ze_add ?_
        refine ze_int ?_
        refine ze_call (c_take.mono (by decide)) ⟨rfl, rfl, rfl, rfl, rfl⟩ hr ?_
        refine za_cons ?_
        refine ze_name 0 rfl ?_
        refine za_cons ?_
        refine ze_int ?_
        refine za_nil ?_
        refine ⟨rfl, ?_⟩
        refine ⟨b2, R, 3, rfl, rfl, g2, by omega, by omega, fun v b3 v0 v1 g3 => ?_⟩
        refine AddW.int ?_
        refine za_nil ?_
        refine ⟨[_, _, _], rfl, Nat.le_of_ble_eq_true rfl, ?_⟩
        exact hΦ 0 (some (1 + v)) b3 (rowOk (by decide) (by decide) fun x e => by cases e; omega) g3
      · refine zs_nil ?_
        refine zs_cons ?_
        refine zs_if ?_
        refine zt_cmp ?_
        refine zc_eq hr ?_
        refine ze_name 2 rfl ?_
        refine ze_int ?_
        refine ⟨_, _, rfl, rfl, rfl, rfl, ?_⟩
        refine ⟨_, rfl, ?_⟩
        first | refine ifeq (fun hc => ?_) (fun hc => ?_) | refine ifeqs (fun hc => ?_) (fun hc => ?_) | refine ifd (fun hc => ?_) (fun hc => ?_) | refine ifb (fun hc => ?_) (fun hc => ?_)
        · refine zs_cons ?_
          refine zs_ret ?_
          refine ze_tup ?_
          refine za_cons ?_
          refine ze_name 1 rfl ?_
          refine za_cons ?_
          refine ze_name 3 rfl ?_
          refine za_cons ?_
          refine ze_add ?_
          refine ze_name 3 rfl ?_
          refine ze_call (c_one.mono (by decide)) ⟨rfl, rfl, rfl, rfl, rfl⟩ hr ?_
          refine za_cons ?_
          refine ze_name 0 rfl ?_
          refine za_cons ?_
          refine ze_lst ?_
          refine za_cons ?_
          refine ze_int ?_
          refine za_cons ?_
          refine ze_int ?_
          refine za_cons ?_
          refine ze_int ?_
          refine za_cons ?_
          refine ze_int ?_
          refine za_nil ?_
          refine ⟨[_, _, _, _], rfl, Nat.le_of_ble_eq_true rfl, ?_⟩
          refine za_nil ?_
          refine ⟨rfl, ?_⟩
          refine ⟨b2, R, _, _, rfl, rfl, .inl rfl, g2, by decide, by decide, fun d b3 hd2 g3 => ?_⟩
          obtain ⟨v, hv, rfl⟩ := mem_ints (ns := [1, 2, 0, 6]) hd2
          have hv2 : 0 ≤ v ∧ v ≤ 6 := by simp at hv; omega
          refine AddW.int ?_
          refine za_nil ?_
          refine ⟨[_, _, _], rfl, Nat.le_of_ble_eq_true rfl, ?_⟩
          exact hΦ few (some (few + v)) b3 (rowOk hf2.1 hf2.2 fun x e => by cases e; omega) g3
        · refine zs_nil ?_
          refine zs_cons ?_
          refine zs_ret ?_
          refine ze_tup ?_
          refine za_cons ?_
          refine ze_name 1 rfl ?_
          refine za_cons ?_
          refine ze_name 3 rfl ?_
          refine za_cons ?_
          refine ze_non ?_
          refine za_nil ?_
          refine ⟨[_, _, _], rfl, Nat.le_of_ble_eq_true rfl, ?_⟩
          exact hΦ few none b2 (rowOk hf2.1 hf2.2 fun x e => by cases e) g2
theorem nd_house : (n_house : List Str).Nodup := by decide +kernel
theorem f_house {T : Top} (bn : Bn T) (d : DefAt T "_law_house" s_house) (c_take : Fz T 1 "_law_take" ["_law_bag_here", "_law_many"] takeS) (c_sort : Fz T 3 "_law_sort" ["_law_bag_here", "_law_name"] sortRowS) (c_names : Fz T 3 "_law_names" ["_law_bag_here", "_law_many"] namesS) : Fz T 4 "_law_house" ["_law_bag_here", "_law_most"] houseS := by
  refine fz_of d sc_house (fun _ _ _ _ _ _ us hl => match us, hl with | [_, _], _ => rfl) ?_
  intro f cdv A outer s H E ws M Φ hr _ hS
  have nd := nd_house
  obtain ⟨b0, R, most, rfl, rfl, g0, m0, m1, hΦ⟩ := hS
  refine zs_cons ?_
  refine zs_ret ?_
  refine zk_tuple bn.tuple ?_
  refine ze_lc (own := [("_law_name", 2)]) rfl nd (blkOk_by (by show blkC n_house (defScope s_house) _ _ = true; decide +kernel)) ?_
  refine zi_seq ?_
  refine ze_call (c_names.mono (by decide)) ⟨rfl, rfl, rfl, rfl, rfl⟩ hr ?_
  refine za_cons ?_
  refine ze_name 0 rfl ?_
  refine za_cons ?_
  refine ze_add ?_
  refine ze_int ?_
  refine ze_call (c_take.mono (by decide)) ⟨rfl, rfl, rfl, rfl, rfl⟩ hr ?_
  refine za_cons ?_
  refine ze_name 0 rfl ?_
  refine za_cons ?_
  refine ze_name 1 rfl ?_
  refine za_nil ?_
  refine ⟨rfl, ?_⟩
  refine ⟨b0, R, most, rfl, rfl, g0, by omega, by omega, fun r b1 r0 r1 g1 => ?_⟩
  refine AddW.int ?_
  refine za_nil ?_
  refine ⟨rfl, ?_⟩
  refine ⟨b1, R, _, rfl, rfl, g1, by omega, by omega, fun ss b2 nd2 hl hm g2 => ?_⟩
  refine SeqW.tuple ?_
  refine ⟨fun i acc M1 => ∃ (b3 : Bag) (rows : List HRow), M1 = bagO b3 :: R ∧ b3.Good ∧ acc = rows.map (fun r => .d (rowD r)) ∧ rows.map (·.name) = ss.take i ∧ ∀ r ∈ rows, RowOk r, ⟨?_, fun i d acc M1 hd hI B => ?_, fun acc M1 hI => ?_⟩⟩
  · exact ⟨b2, [], rfl, g2, rfl, rfl, by simp⟩
  · obtain ⟨b3, rows, rfl, g3, rfl, hn, hr3⟩ := hI
    obtain ⟨nm, hnm, rfl⟩ := get_map hd
    have hlen : rows.length ≤ ss.length := by rw [← List.length_map (f := HRow.name), hn, List.length_take]; omega
    refine zgb_name 2 (hN := nd) ?_
    intro B
    refine zts_nil ?_
    refine ift fun B => ?_
    refine ze_call (c_sort.mono (by decide)) ⟨rfl, rfl, rfl, rfl, rfl⟩ hr ?_
    refine za_cons ?_
    refine ze_name 0 rfl ?_
    refine za_cons ?_
    refine ze_name 2 rfl ?_
    refine za_nil ?_
    refine ⟨rfl, ?_⟩
    refine ⟨b3, R, nm, rfl, rfl, g3, fun l m b4 ok g4 => ?_⟩
    refine ⟨by rw [List.length_map]; unfold sizeLine; omega, b4, rows ++ [⟨nm, l, m⟩], rfl, g4, by simp, ?_, fun r hr => ?_⟩
    · rw [take_next hnm, List.map_append, hn]; rfl
    · rcases List.mem_append.mp hr with h | h
      · exact hr3 r h
      · rw [List.mem_singleton.mp h]; exact ok
  · obtain ⟨b3, rows, rfl, g3, rfl, hn, hr3⟩ := hI
    rw [List.length_map, List.take_length] at hn
    have hlen : rows.length = ss.length := by rw [← List.length_map (f := HRow.name), hn]
    refine ⟨rows.map rowD, by rw [List.map_map]; rfl, ?_⟩
    refine ⟨_, .inl rfl, ?_⟩
    exact hΦ rows b3 ⟨fun z => by rw [z] at hlen; simp at hlen; omega, by omega, by rw [hn]; exact nd2, fun q hq => hm _ (by rw [← hn]; exact List.mem_map.mpr ⟨q, hq, rfl⟩), hr3⟩ g3
theorem nd_numbers : (n_numbers : List Str).Nodup := by decide +kernel
theorem f_numbers {T : Top} (bn : Bn T) (d : DefAt T "_law_numbers" s_numbers) (c_take : Fz T 1 "_law_take" ["_law_bag_here", "_law_many"] takeS) (c_one : Fz T 2 "_law_one" ["_law_bag_here", "_law_things"] oneS) : Fz T 3 "_law_numbers" ["_law_bag_here"] numbersS := by
  refine fz_of d sc_numbers (fun _ _ _ _ _ _ us hl => match us, hl with | [_], _ => rfl) ?_
  intro f cdv A outer s H E ws M Φ hr _ hS
  have nd := nd_numbers
  obtain ⟨b0, R, rfl, rfl, g0, hΦ⟩ := hS
  refine zs_cons ?_
  refine zs_asg ?_
  refine ze_tup ?_
  refine za_cons ?_
  refine ze_call (c_one.mono (by decide)) ⟨rfl, rfl, rfl, rfl, rfl⟩ hr ?_
  refine za_cons ?_
  refine ze_name 0 rfl ?_
  refine za_cons ?_
  refine ze_lst ?_
  refine za_cons ?_
  refine ze_int ?_
  refine za_cons ?_
  refine ze_neg ?_
  refine ze_int ?_
  refine ⟨_, rfl, ?_⟩
  refine za_cons ?_
  refine ze_int ?_
  refine za_cons ?_
  refine ze_int ?_
  refine za_cons ?_
  refine ze_sub ?_
  refine ze_int ?_
  refine ze_pow ?_
  refine ze_int ?_
  refine ze_int ?_
  refine ⟨_, _, rfl, rfl, ⟨by decide, by decide, by decide⟩, ?_⟩
  refine ⟨_, _, rfl, rfl, ?_⟩
  refine za_nil ?_
  refine ⟨[_, _, _, _, _], rfl, Nat.le_of_ble_eq_true rfl, ?_⟩
  refine za_nil ?_
  refine ⟨rfl, ?_⟩
  refine ⟨b0, R, _, _, rfl, rfl, .inl rfl, g0, by decide, by decide, fun d b1 hd g1 => ?_⟩
  obtain ⟨low, hlow, rfl⟩ := mem_ints (ns := [0, -2, 5, 0, 1 - 10 ^ Int.toNat 30]) hd
  have hl2 := low_ok low hlow
  refine za_cons ?_
  refine ze_call (c_one.mono (by decide)) ⟨rfl, rfl, rfl, rfl, rfl⟩ hr ?_
  refine za_cons ?_
  refine ze_name 0 rfl ?_
  refine za_cons ?_
  refine ze_lst ?_
  refine za_cons ?_
  refine ze_int ?_
  refine za_cons ?_
  refine ze_int ?_
  refine za_cons ?_
  refine ze_int ?_
  refine za_cons ?_
  refine ze_int ?_
  refine za_cons ?_
  refine ze_pow ?_
  refine ze_int ?_
  refine ze_int ?_
  refine ⟨_, _, rfl, rfl, ⟨by decide, by decide, by decide⟩, ?_⟩
  refine za_nil ?_
  refine ⟨[_, _, _, _, _], rfl, Nat.le_of_ble_eq_true rfl, ?_⟩
  refine za_nil ?_
  refine ⟨rfl, ?_⟩
  refine ⟨b1, R, _, _, rfl, rfl, .inl rfl, g1, by decide, by decide, fun d b2 hd2 g2 => ?_⟩
  obtain ⟨step, hstep, rfl⟩ := mem_ints (ns := [1, 2, 1, 3, 10 ^ Int.toNat 29]) hd2
  have hs2 := step_ok step hstep
  refine za_nil ?_
  refine ⟨[_, _], rfl, Nat.le_of_ble_eq_true rfl, ?_⟩
  refine zg_tup rfl ?_ rfl
  refine zgs_name 1 (hN := nd) ?_
  refine zgs_name 2 (hN := nd) ?_
  refine zgs_nil ?_
  refine zs_cons ?_
  refine zs_ret ?_
  refine ze_lc (own := [("_law_place", 3)]) rfl nd (blkOk_by (by show blkC n_numbers (defScope s_numbers) _ _ = true; decide +kernel)) ?_
  refine zi_range1 bn.range ?_
  refine ze_add ?_
  refine ze_int ?_
  refine ze_call (c_take.mono (by decide)) ⟨rfl, rfl, rfl, rfl, rfl⟩ hr ?_
  refine za_cons ?_
  refine ze_name 0 rfl ?_
  refine za_cons ?_
  refine ze_int ?_
  refine za_nil ?_
  refine ⟨rfl, ?_⟩
  refine ⟨b2, R, 7, rfl, rfl, g2, by omega, by omega, fun r b3 r0 r1 g3 => ?_⟩
  refine AddW.int ?_
  refine ⟨(1 + r).toNat, by rw [Int.toNat_of_nonneg (by omega)], by omega, ?_⟩
  refine LcT.map (List.range (1 + r).toNat) (fun (i : Nat) => .int i) (fun i => .int (low + step * i)) (by rw [List.length_range]; unfold sizeLine; omega) (fun i hi B => ?_) ?_
  · have hi2 : i < 8 := by have := List.mem_range.mp hi; omega
    refine zgb_name 3 (hN := nd) ?_
    intro B
    refine ze_add ?_
    refine ze_name 1 rfl ?_
    refine ze_mul ?_
    refine ze_name 2 rfl ?_
    refine ze_name 3 rfl ?_
    refine ⟨_, _, rfl, rfl, by first | exact .inr ⟨by first | decide | omega, by first | decide | omega⟩ | exact .inl ⟨by first | decide | omega, by first | decide | omega⟩, ?_⟩
    refine AddW.int ?_
    exact ⟨rfl, rfl⟩
  refine ⟨_, rfl, ?_⟩
  rw [show ((List.range (1 + r).toNat).map fun (i : Nat) => PyData.int (low + step * i)) = ((List.range (1 + r).toNat).map fun (i : Nat) => low + step * (i : Int)).map .int by rw [List.map_map]; rfl]
  exact hΦ _ b3 (pool_ok hl2 hs2 r0 r1) g3
theorem nd_size : (n_size : List Str).Nodup := by decide +kernel
theorem f_size {T : Top} (bn : Bn T) (d : DefAt T "_law_size" s_size) (c_take : Fz T 1 "_law_take" ["_law_bag_here", "_law_many"] takeS) : Fz T 2 "_law_size" ["_law_bag_here", "_law_sort_here", "_law_more_here"] sizeS := by
  refine fz_of d sc_size (fun _ _ _ _ _ _ us hl => match us, hl with | [_, _, _], _ => rfl) ?_
  intro f cdv A outer s H E ws M Φ hr _ hS
  have nd := nd_size
  obtain ⟨b0, R, ⟨nm, l, mo⟩, more, rfl, rfl, g0, ok, q0, q1, hΦ⟩ := hS
  have l0 : 0 ≤ l := ok.l0
  have l1 : l ≤ 3 := ok.l1
  rcases mo with _ | m
  · refine zs_cons ?_
    refine zs_set 3 (hN := nd) ?_
    refine ze_if ?_
    refine zt_cmp ?_
    refine zc_isN ?_
    refine ze_ix hr ?_
    refine ze_name 1 rfl ?_
    refine ze_int ?_
    refine IxW.tuple (ds := [.str nm, .int l, .none]) rfl ?_
    refine ⟨_, rfl, ?_⟩
    refine ift ?_
    refine ze_add ?_
    refine ze_ix hr ?_
    refine ze_name 1 rfl ?_
    refine ze_int ?_
    refine IxW.tuple (ds := [.str nm, .int l, .none]) rfl ?_
    refine ze_name 2 rfl ?_
    refine AddW.int ?_
    refine zs_cons ?_
    refine zs_ret ?_
    refine ze_add ?_
    refine ze_ix hr ?_
    refine ze_name 1 rfl ?_
    refine ze_int ?_
    refine IxW.tuple (ds := [.str nm, .int l, .none]) rfl ?_
    refine ze_call (c_take.mono (by decide)) ⟨rfl, rfl, rfl, rfl, rfl⟩ hr ?_
    refine za_cons ?_
    refine ze_name 0 rfl ?_
    refine za_cons ?_
    refine ze_add ?_
    refine ze_sub ?_
    refine ze_name 3 rfl ?_
    refine ze_ix hr ?_
    refine ze_name 1 rfl ?_
    refine ze_int ?_
    refine IxW.tuple (ds := [.str nm, .int l, .none]) rfl ?_
    refine ⟨_, _, rfl, rfl, ?_⟩
    refine ze_int ?_
    refine AddW.int ?_
    refine za_nil ?_
    refine ⟨rfl, ?_⟩
    refine ⟨b0, R, _, rfl, rfl, g0, by omega, by omega, fun r b1 r0 r1 g1 => ?_⟩
    refine AddW.int ?_
    exact hΦ _ b1 (by omega) (by omega) g1
  · refine zs_cons ?_
    refine zs_set 3 (hN := nd) ?_
    refine ze_if ?_
    refine zt_cmp ?_
    refine zc_isN ?_
    refine ze_ix hr ?_
    refine ze_name 1 rfl ?_
    refine ze_int ?_
    refine IxW.tuple (ds := [.str nm, .int l, .int m]) rfl ?_
    refine ⟨_, rfl, ?_⟩
    refine iff_ ?_
    refine zk_min bn.min rfl ?_
    refine ze_ix hr ?_
    refine ze_name 1 rfl ?_
    refine ze_int ?_
    refine IxW.tuple (ds := [.str nm, .int l, .int m]) rfl ?_
    refine ze_add ?_
    refine ze_ix hr ?_
    refine ze_name 1 rfl ?_
    refine ze_int ?_
    refine IxW.tuple (ds := [.str nm, .int l, .int m]) rfl ?_
    refine ze_name 2 rfl ?_
    refine AddW.int ?_
    refine ⟨_, _, rfl, rfl, ?_⟩
    refine zs_cons ?_
    refine zs_ret ?_
    refine ze_add ?_
    refine ze_ix hr ?_
    refine ze_name 1 rfl ?_
    refine ze_int ?_
    refine IxW.tuple (ds := [.str nm, .int l, .int m]) rfl ?_
    refine ze_call (c_take.mono (by decide)) ⟨rfl, rfl, rfl, rfl, rfl⟩ hr ?_
    refine za_cons ?_
    refine ze_name 0 rfl ?_
    refine za_cons ?_
    refine ze_add ?_
    refine ze_sub ?_
    refine ze_name 3 rfl ?_
    refine ze_ix hr ?_
    refine ze_name 1 rfl ?_
    refine ze_int ?_
    refine IxW.tuple (ds := [.str nm, .int l, .int m]) rfl ?_
    refine ⟨_, _, rfl, rfl, ?_⟩
    refine ze_int ?_
    refine AddW.int ?_
    refine za_nil ?_
    refine ⟨rfl, ?_⟩
    have hm := ok.m m rfl
    refine ⟨b0, R, _, rfl, rfl, g0, by dsimp only at hm; split <;> omega, by dsimp only at hm; split <;> omega, fun r b1 r0 r1 g1 => ?_⟩
    refine AddW.int ?_
    refine hΦ _ b1 (by omega) ?_ g1
    split at r1 <;> omega
end K84

namespace K84
open PySem PySem.Spec PyProof.Rows L2 Z
theorem nd_table : (n_table : List Str).Nodup := by decide +kernel
theorem f_table {T : Top} (bn : Bn T) (d : DefAt T "_law_table" s_table) (c_one : Fz T 2 "_law_one" ["_law_bag_here", "_law_things"] oneS) (c_mixed : Fz T 2 "_law_mixed" ["_law_bag_here", "_law_things"] mixedS) (c_size : Fz T 2 "_law_size" ["_law_bag_here", "_law_sort_here", "_law_more_here"] sizeS) : Fz T 3 "_law_table" ["_law_bag_here", "_law_house_here", "_law_pool", "_law_more_here"] tableS := by
  refine fz_of d sc_table (fun _ _ _ _ _ _ us hl => match us, hl with | [_, _, _, _], _ => rfl) ?_
  intro f cdv A outer s H E ws M Φ hr _ hS
  have nd := nd_table
  obtain ⟨b0, R, h, pool, more, rfl, rfl, g0, ok, p0, p1, q0, q1, hΦ⟩ := hS
  have hn1 := ok.n1
  refine zs_cl fun cl => ?_
  refine zs_fin ?_
  refine zs_cons ?_
  refine zs_set 4 (hN := nd) ?_
  refine ze_dnew ?_
  refine zs_cons ?_
  refine zs_for PassesOwn.never rfl ?_
  refine zi_seq ?_
  refine ze_call (c_mixed.mono (by decide)) ⟨rfl, rfl, rfl, rfl, rfl⟩ hr ?_
  refine za_cons ?_
  refine ze_name 0 rfl ?_
  refine za_cons ?_
  refine ze_name 1 rfl ?_
  refine za_nil ?_
  refine ⟨rfl, ?_⟩
  refine ⟨b0, _, _, h.map rowD, rfl, rfl, .inr rfl, g0, by rw [List.length_map]; omega, fun es b1 pm g1 => ?_⟩
  obtain ⟨hs, rfl, ph⟩ := perm_rows pm
  refine SeqW.list ?_
  refine ⟨fun i Γ1 M1 => ∃ (o : Option W) (b2 : Bag) (t : Tab), Γ1 = [some (.m 0), some (.d (houseD h)), some (.d (.list (pool.map .int))), some (.d (.int more)), some (.m (R.length + 1)), o, none] ∧ M1 = bagO b2 :: (R ++ [.dic (t.map fun p : Str × List Int => ((Sum.inr p.1 : Key), W.d (.tuple (p.2.map .int))))]) ∧ b2.Good ∧ t.map (·.1) = (hs.take i).map (·.name) ∧ ∀ p ∈ t, p.2.Pairwise (· ≤ ·) ∧ p.2.length ≤ 40 ∧ ∀ n ∈ p.2, n ∈ pool, ⟨?_, fun i d Γ1 M1 hd hI => ?_, fun Γ1 M1 hI => ?_⟩⟩
  · exact ⟨none, b1, [], rfl, rfl, g1, rfl, by simp⟩
  · obtain ⟨o, b2, t, rfl, rfl, g2, ht, hp⟩ := hI
    obtain ⟨r, hr1, rfl⟩ := get_map hd
    have okr := ok.row r (ph.mem_iff.mp (List.mem_of_getElem? hr1))
    have tl : t.length ≤ 9 := by rw [← List.length_map (f := Prod.fst), ht, List.length_map, List.length_take, ph.length_eq]; omega
    refine zg_name 5 (hN := nd) ?_
    refine zs_cons ?_
    refine zs_asg ?_
    refine zk_tuple bn.tuple ?_
    refine zk_sorted bn.sorted ?_
    refine ze_lc (own := [("_law_row", 6)]) rfl nd (blkOk_by (by show blkC n_table (defScope s_table) _ _ = true; decide +kernel)) ?_
    refine zi_range1 bn.range ?_
    refine ze_call (c_size.mono (by decide)) ⟨rfl, rfl, rfl, rfl, rfl⟩ hr ?_
    refine za_cons ?_
    refine ze_name 0 rfl ?_
    refine za_cons ?_
    refine ze_name 5 rfl ?_
    refine za_cons ?_
    refine ze_name 3 rfl ?_
    refine za_nil ?_
    refine ⟨rfl, ?_⟩
    refine ⟨b2, _, r, more, rfl, rfl, g2, okr, q0, q1, fun n b3 n0 n1 g3 => ?_⟩
    refine ⟨n.toNat, by rw [Int.toNat_of_nonneg n0], by omega, ?_⟩
    refine LcT.any _ (fun M1 => ∃ b4 : Bag, M1 = bagO b4 :: (R ++ [.dic (t.map fun p : Str × List Int => ((Sum.inr p.1 : Key), W.d (.tuple (p.2.map .int))))]) ∧ b4.Good) (fun z => ∃ n, n ∈ pool ∧ z = .int n) (by rw [List.length_map, List.length_range]; unfold sizeLine; omega) ⟨b3, rfl, g3⟩ (fun d _ M1 hJ B => ?_) (fun zs M1 zl hz hJ => ?_)
    · obtain ⟨b4, rfl, g4⟩ := hJ
      refine zgb_name 6 (hN := nd) ?_
      intro B
      refine ze_call (c_one.mono (by decide)) ⟨rfl, rfl, rfl, rfl, rfl⟩ hr ?_
      refine za_cons ?_
      refine ze_name 0 rfl ?_
      refine za_cons ?_
      refine ze_name 2 rfl ?_
      refine za_nil ?_
      refine ⟨rfl, ?_⟩
      refine ⟨b4, _, _, pool.map .int, rfl, rfl, .inl rfl, g4, by rw [List.length_map]; exact p0, by rw [List.length_map]; exact p1, fun d b5 hd g5 => ?_⟩
      obtain ⟨n, hn, rfl⟩ := mem_ints hd
      exact ⟨⟨_, rfl, n, hn, rfl⟩, b5, rfl, g5⟩
    obtain ⟨b4, rfl, g4⟩ := hJ
    obtain ⟨ns, rfl, hns⟩ := all_of hz
    rw [List.length_map, List.length_map, List.length_range] at zl
    refine ⟨_, rfl, ?_⟩
    refine .inl ⟨ns, .inl rfl, fun _ z => (by cases z), ?_⟩
    refine ⟨_, .inl rfl, ?_⟩
    refine zg_sub hr ?_
    refine ze_name 4 rfl ?_
    refine ze_ix hr ?_
    refine ze_name 5 rfl ?_
    refine ze_int ?_
    refine IxW.tuple (ds := [.str r.name, .int r.least, optD r.most]) rfl ?_
    have nw : ((t.map fun p : Str × List Int => ((Sum.inr p.1 : Key), W.d (.tuple (p.2.map .int)))).any fun kv => decide (kv.1 = Sum.inr r.name)) = false := tab_new ok ph hr1 ht
    refine .inr ⟨R.length + 1, _, .inr r.name, rfl, rfl, at_end (bagO b4 :: R) _, by rw [List.length_map]; unfold sizeLine; omega, ?_⟩
    refine zs_nil ?_
    refine ⟨_, b4, t ++ [(r.name, sortI ns)], rfl, (set_end (bagO b4 :: R) _ _).trans ?_, g4, ?_, fun p hp2 => ?_⟩
    · unfold putW
      rw [nw, if_neg Bool.false_ne_true, List.map_append]
      rfl
    · rw [List.map_append, ht, take_next hr1, List.map_append]
      rfl
    · rcases List.mem_append.mp hp2 with z | z
      · exact hp p z
      · rw [List.mem_singleton.mp z]
        exact ⟨sortI_pw ns, by rw [(sortI_perm ns).length_eq]; omega, fun m hm => hns m ((sortI_perm ns).mem_iff.mp hm)⟩
  · obtain ⟨o, b2, t, rfl, rfl, g2, ht, hp⟩ := hI
    rw [List.length_map, List.take_length] at ht
    refine zs_cons ?_
    refine zs_ret ?_
    refine ze_name 4 rfl ?_
    have e : (t.map fun p : Str × List Int => ((Sum.inr p.1 : Key), W.d (.tuple (p.2.map .int)))) = (t.map fun p => ((Sum.inr p.1 : Key), PyData.tuple (p.2.map .int))).map fun q => (q.1, W.d q.2) := by rw [List.map_map]; rfl
    rw [e]
    exact fin_dict (A := bagO b2 :: R) (Nat.le_refl _) (cl_bag cl) (hΦ t b2 ⟨by rw [ht]; exact ph.map _, hp⟩ g2)
theorem nd_deed : (n_deed : List Str).Nodup := by decide +kernel
theorem f_deed {T : Top} (bn : Bn T) (d : DefAt T "_law_deed" s_deed) (c_take : Fz T 1 "_law_take" ["_law_bag_here", "_law_many"] takeS) (c_one : Fz T 2 "_law_one" ["_law_bag_here", "_law_things"] oneS) (c_mixed : Fz T 2 "_law_mixed" ["_law_bag_here", "_law_things"] mixedS) : Fz T 3 "_law_deed" ["_law_bag_here", "_law_house_here", "_law_pool", "_law_most"] deedS := by
  refine fz_of d sc_deed (fun _ _ _ _ _ _ us hl => match us, hl with | [_, _, _, _], _ => rfl) ?_
  intro f cdv A outer s H E ws M Φ hr _ hS
  have nd := nd_deed
  obtain ⟨b0, R, h, pool, most, rfl, rfl, g0, ok, p0, p1, q0, q1, hΦ⟩ := hS
  have hn1 := ok.n1
  refine zs_cons ?_
  refine zs_setLc 4 (own := [("_law_sort_here", 8)]) rfl nd (blkOk_by (by show blkC n_deed (defScope s_deed) _ _ = true; decide +kernel)) ?_ rfl
  refine zi_seq ?_
  refine ze_name 1 rfl ?_
  refine SeqW.tuple ?_
  refine LcT.map h rowD (fun r => .str r.name) (by unfold sizeLine; omega) (fun r hr1 B => ?_) ?_
  · skip
    refine zgb_name 8 (hN := nd) ?_
    intro B
    refine ze_ix hr ?_
    refine ze_name 8 rfl ?_
    refine ze_int ?_
    refine IxW.tuple (ds := [.str r.name, .int r.least, optD r.most]) rfl ?_
    exact ⟨rfl, rfl⟩
  refine ⟨_, rfl, ?_⟩
  rw [show (h.map fun r => PyData.str r.name) = (h.map (·.name)).map .str by rw [List.map_map]; rfl]
  refine zs_cons ?_
  refine zs_par 5 6 rfl (hN := nd) ?_
  refine ze_sl ?_
  refine ze_call (c_mixed.mono (by decide)) ⟨rfl, rfl, rfl, rfl, rfl⟩ hr ?_
  refine za_cons ?_
  refine ze_name 0 rfl ?_
  refine za_cons ?_
  refine ze_name 4 rfl ?_
  refine za_nil ?_
  refine ⟨rfl, ?_⟩
  refine ⟨b0, R, _, _, rfl, rfl, .inl rfl, g0, by rw [List.length_map, List.length_map]; omega, fun es b1 pm g1 => ?_⟩
  obtain ⟨ss, rfl, ps⟩ := perm_strs pm
  refine zp_none ?_
  refine zp_some ?_
  refine ze_int ?_
  refine ⟨_, rfl, ?_⟩
  refine SlW.list ?_
  rw [cutD_map, cut_take _ (by decide)]
  rcases ss with _ | ⟨a, _ | ⟨c, rest⟩⟩
  · have := ps.length_eq
    rw [List.length_map] at this
    exact absurd (List.eq_nil_of_length_eq_zero this.symm) ok.n0
  · have ha : a ∈ h.map (·.name) := ps.mem_iff.mp (by simp)
    show ZE _ _ _ _ _
    refine ze_add ?_
    refine ze_int ?_
    refine ze_call (c_take.mono (by decide)) ⟨rfl, rfl, rfl, rfl, rfl⟩ hr ?_
    refine za_cons ?_
    refine ze_name 0 rfl ?_
    refine za_cons ?_
    refine ze_name 3 rfl ?_
    refine za_nil ?_
    refine ⟨rfl, ?_⟩
    refine ⟨b1, R, most, rfl, rfl, g1, by omega, by omega, fun k b2 k0 k1 g2 => ?_⟩
    refine AddW.int ?_
    refine zs_cons ?_
    refine zs_set 7 (hN := nd) ?_
    refine ze_call (c_take.mono (by decide)) ⟨rfl, rfl, rfl, rfl, rfl⟩ hr ?_
    refine za_cons ?_
    refine ze_name 0 rfl ?_
    refine za_cons ?_
    refine ze_if ?_
    refine zt_cmp ?_
    refine zc_gt ?_
    refine zk_len bn.len ?_
    refine ze_name 5 rfl ?_
    refine ⟨_, LenW.list, ?_⟩
    refine ze_int ?_
    refine ⟨_, _, rfl, rfl, ?_⟩
    refine ⟨_, rfl, ?_⟩
    refine iff_ ?_
    refine ze_int ?_
    refine za_nil ?_
    refine ⟨rfl, ?_⟩
    refine ⟨b2, R, _, rfl, rfl, g2, by omega, by omega, fun way b3 w0 w1 g3 => ?_⟩
    refine zs_cons ?_
    refine zs_if ?_
    refine zt_cmp ?_
    refine zc_eq hr ?_
    refine ze_name 7 rfl ?_
    refine ze_int ?_
    refine ⟨_, _, rfl, rfl, rfl, rfl, ?_⟩
    refine ⟨_, rfl, ?_⟩
    first | refine ifeq (fun hc => ?_) (fun hc => ?_) | refine ifeqs (fun hc => ?_) (fun hc => ?_) | refine ifd (fun hc => ?_) (fun hc => ?_) | refine ifb (fun hc => ?_) (fun hc => ?_)
    · refine zs_cons ?_
      refine zs_ret ?_
      refine ze_tup ?_
      refine za_cons ?_
      refine ze_str ?_
      refine za_cons ?_
      refine ze_ix hr ?_
      refine ze_name 5 rfl ?_
      refine ze_int ?_
      refine IxW.list (ds := [.str a]) rfl ?_
      refine za_cons ?_
      refine ze_call (c_one.mono (by decide)) ⟨rfl, rfl, rfl, rfl, rfl⟩ hr ?_
      refine za_cons ?_
      refine ze_name 0 rfl ?_
      refine za_cons ?_
      refine ze_name 2 rfl ?_
      refine za_nil ?_
      refine ⟨rfl, ?_⟩
      refine ⟨b3, R, _, pool.map .int, rfl, rfl, .inl rfl, g3, by rw [List.length_map]; exact p0, by rw [List.length_map]; exact p1, fun d b4 hd g4 => ?_⟩
      obtain ⟨n, hn, rfl⟩ := mem_ints hd
      refine za_nil ?_
      refine ⟨[_, _, _], rfl, Nat.le_of_ble_eq_true rfl, ?_⟩
      exact hΦ (.come a n) b4 ⟨ha, hn⟩ g4
    · refine zs_nil ?_
      refine zs_cons ?_
      refine zs_if ?_
      refine zt_cmp ?_
      refine zc_eq hr ?_
      refine ze_name 7 rfl ?_
      refine ze_int ?_
      refine ⟨_, _, rfl, rfl, rfl, rfl, ?_⟩
      refine ⟨_, rfl, ?_⟩
      first | refine ifeq (fun hc => ?_) (fun hc => ?_) | refine ifeqs (fun hc => ?_) (fun hc => ?_) | refine ifd (fun hc => ?_) (fun hc => ?_) | refine ifb (fun hc => ?_) (fun hc => ?_)
      · refine zs_cons ?_
        refine zs_ret ?_
        refine ze_tup ?_
        refine za_cons ?_
        refine ze_str ?_
        refine za_cons ?_
        refine ze_ix hr ?_
        refine ze_name 5 rfl ?_
        refine ze_int ?_
        refine IxW.list (ds := [.str a]) rfl ?_
        refine za_cons ?_
        refine ze_name 6 rfl ?_
        refine za_nil ?_
        refine ⟨[_, _, _], rfl, Nat.le_of_ble_eq_true rfl, ?_⟩
        exact hΦ (.go a (1 + k)) b3 ⟨ha, by omega, by omega⟩ g3
      · refine zs_nil ?_
        refine zs_cons ?_
        refine zs_if ?_
        refine zt_cmp ?_
        refine zc_eq hr ?_
        refine ze_name 7 rfl ?_
        refine ze_int ?_
        refine ⟨_, _, rfl, rfl, rfl, rfl, ?_⟩
        refine ⟨_, rfl, ?_⟩
        first | refine ifeq (fun hc => ?_) (fun hc => ?_) | refine ifeqs (fun hc => ?_) (fun hc => ?_) | refine ifd (fun hc => ?_) (fun hc => ?_) | refine ifb (fun hc => ?_) (fun hc => ?_)
        · refine zs_cons ?_
          refine zs_ret ?_
          refine ze_tup ?_
          refine za_cons ?_
          refine ze_str ?_
          refine za_cons ?_
          refine ze_ix hr ?_
          refine ze_name 5 rfl ?_
          refine ze_int ?_
          refine IxW.list (ds := [.str a]) rfl ?_
          refine za_cons ?_
          refine ze_call (c_one.mono (by decide)) ⟨rfl, rfl, rfl, rfl, rfl⟩ hr ?_
          refine za_cons ?_
          refine ze_name 0 rfl ?_
          refine za_cons ?_
          refine ze_lst ?_
          refine za_cons ?_
          refine ze_name 6 rfl ?_
          refine za_cons ?_
          refine ze_sub ?_
          refine ze_name 6 rfl ?_
          refine ze_int ?_
          refine ⟨_, _, rfl, rfl, ?_⟩
          refine za_nil ?_
          refine ⟨[_, _], rfl, Nat.le_of_ble_eq_true rfl, ?_⟩
          refine za_nil ?_
          refine ⟨rfl, ?_⟩
          refine ⟨b3, R, _, _, rfl, rfl, .inl rfl, g3, Nat.le_of_ble_eq_true rfl, Nat.le_of_ble_eq_true rfl, fun d b4 hd g4 => ?_⟩
          obtain ⟨n, hn, rfl⟩ := mem_ints (ns := [1 + k, 1 + k - 1]) hd
          have hn2 : 0 ≤ n ∧ n ≤ 1000 := by simp at hn; omega
          refine za_nil ?_
          refine ⟨[_, _, _], rfl, Nat.le_of_ble_eq_true rfl, ?_⟩
          exact hΦ (.keep a n) b4 ⟨ha, hn2⟩ g4
        · refine zs_nil ?_
          refine zs_cons ?_
          refine zs_ret ?_
          exfalso
          omega
  · have ha : a ∈ h.map (·.name) := ps.mem_iff.mp (by simp)
    have hcm : c ∈ h.map (·.name) := ps.mem_iff.mp (by simp)
    have nac : a ≠ c := by
      have nd2 := (ps.nodup_iff.mpr ok.nd)
      rw [List.nodup_cons] at nd2
      exact fun z => nd2.1 (by rw [z]; simp)
    show ZE _ _ _ _ _
    refine ze_add ?_
    refine ze_int ?_
    refine ze_call (c_take.mono (by decide)) ⟨rfl, rfl, rfl, rfl, rfl⟩ hr ?_
    refine za_cons ?_
    refine ze_name 0 rfl ?_
    refine za_cons ?_
    refine ze_name 3 rfl ?_
    refine za_nil ?_
    refine ⟨rfl, ?_⟩
    refine ⟨b1, R, most, rfl, rfl, g1, by omega, by omega, fun k b2 k0 k1 g2 => ?_⟩
    refine AddW.int ?_
    refine zs_cons ?_
    refine zs_set 7 (hN := nd) ?_
    refine ze_call (c_take.mono (by decide)) ⟨rfl, rfl, rfl, rfl, rfl⟩ hr ?_
    refine za_cons ?_
    refine ze_name 0 rfl ?_
    refine za_cons ?_
    refine ze_if ?_
    refine zt_cmp ?_
    refine zc_gt ?_
    refine zk_len bn.len ?_
    refine ze_name 5 rfl ?_
    refine ⟨_, LenW.list, ?_⟩
    refine ze_int ?_
    refine ⟨_, _, rfl, rfl, ?_⟩
    refine ⟨_, rfl, ?_⟩
    refine ift ?_
    refine ze_int ?_
    refine za_nil ?_
    refine ⟨rfl, ?_⟩
    refine ⟨b2, R, _, rfl, rfl, g2, by omega, by omega, fun way b3 w0 w1 g3 => ?_⟩
    refine zs_cons ?_
    refine zs_if ?_
    refine zt_cmp ?_
    refine zc_eq hr ?_
    refine ze_name 7 rfl ?_
    refine ze_int ?_
    refine ⟨_, _, rfl, rfl, rfl, rfl, ?_⟩
    refine ⟨_, rfl, ?_⟩
    first | refine ifeq (fun hc => ?_) (fun hc => ?_) | refine ifeqs (fun hc => ?_) (fun hc => ?_) | refine ifd (fun hc => ?_) (fun hc => ?_) | refine ifb (fun hc => ?_) (fun hc => ?_)
    · refine zs_cons ?_
      refine zs_ret ?_
      refine ze_tup ?_
      refine za_cons ?_
      refine ze_str ?_
      refine za_cons ?_
      refine ze_ix hr ?_
      refine ze_name 5 rfl ?_
      refine ze_int ?_
      refine IxW.list (ds := [.str a, .str c]) rfl ?_
      refine za_cons ?_
      refine ze_call (c_one.mono (by decide)) ⟨rfl, rfl, rfl, rfl, rfl⟩ hr ?_
      refine za_cons ?_
      refine ze_name 0 rfl ?_
      refine za_cons ?_
      refine ze_name 2 rfl ?_
      refine za_nil ?_
      refine ⟨rfl, ?_⟩
      refine ⟨b3, R, _, pool.map .int, rfl, rfl, .inl rfl, g3, by rw [List.length_map]; exact p0, by rw [List.length_map]; exact p1, fun d b4 hd g4 => ?_⟩
      obtain ⟨n, hn, rfl⟩ := mem_ints hd
      refine za_nil ?_
      refine ⟨[_, _, _], rfl, Nat.le_of_ble_eq_true rfl, ?_⟩
      exact hΦ (.come a n) b4 ⟨ha, hn⟩ g4
    · refine zs_nil ?_
      refine zs_cons ?_
      refine zs_if ?_
      refine zt_cmp ?_
      refine zc_eq hr ?_
      refine ze_name 7 rfl ?_
      refine ze_int ?_
      refine ⟨_, _, rfl, rfl, rfl, rfl, ?_⟩
      refine ⟨_, rfl, ?_⟩
      first | refine ifeq (fun hc => ?_) (fun hc => ?_) | refine ifeqs (fun hc => ?_) (fun hc => ?_) | refine ifd (fun hc => ?_) (fun hc => ?_) | refine ifb (fun hc => ?_) (fun hc => ?_)
      · refine zs_cons ?_
        refine zs_ret ?_
        refine ze_tup ?_
        refine za_cons ?_
        refine ze_str ?_
        refine za_cons ?_
        refine ze_ix hr ?_
        refine ze_name 5 rfl ?_
        refine ze_int ?_
        refine IxW.list (ds := [.str a, .str c]) rfl ?_
        refine za_cons ?_
        refine ze_name 6 rfl ?_
        refine za_nil ?_
        refine ⟨[_, _, _], rfl, Nat.le_of_ble_eq_true rfl, ?_⟩
        exact hΦ (.go a (1 + k)) b3 ⟨ha, by omega, by omega⟩ g3
      · refine zs_nil ?_
        refine zs_cons ?_
        refine zs_if ?_
        refine zt_cmp ?_
        refine zc_eq hr ?_
        refine ze_name 7 rfl ?_
        refine ze_int ?_
        refine ⟨_, _, rfl, rfl, rfl, rfl, ?_⟩
        refine ⟨_, rfl, ?_⟩
        first | refine ifeq (fun hc => ?_) (fun hc => ?_) | refine ifeqs (fun hc => ?_) (fun hc => ?_) | refine ifd (fun hc => ?_) (fun hc => ?_) | refine ifb (fun hc => ?_) (fun hc => ?_)
        · refine zs_cons ?_
          refine zs_ret ?_
          refine ze_tup ?_
          refine za_cons ?_
          refine ze_str ?_
          refine za_cons ?_
          refine ze_ix hr ?_
          refine ze_name 5 rfl ?_
          refine ze_int ?_
          refine IxW.list (ds := [.str a, .str c]) rfl ?_
          refine za_cons ?_
          refine ze_call (c_one.mono (by decide)) ⟨rfl, rfl, rfl, rfl, rfl⟩ hr ?_
          refine za_cons ?_
          refine ze_name 0 rfl ?_
          refine za_cons ?_
          refine ze_lst ?_
          refine za_cons ?_
          refine ze_name 6 rfl ?_
          refine za_cons ?_
          refine ze_sub ?_
          refine ze_name 6 rfl ?_
          refine ze_int ?_
          refine ⟨_, _, rfl, rfl, ?_⟩
          refine za_nil ?_
          refine ⟨[_, _], rfl, Nat.le_of_ble_eq_true rfl, ?_⟩
          refine za_nil ?_
          refine ⟨rfl, ?_⟩
          refine ⟨b3, R, _, _, rfl, rfl, .inl rfl, g3, Nat.le_of_ble_eq_true rfl, Nat.le_of_ble_eq_true rfl, fun d b4 hd g4 => ?_⟩
          obtain ⟨n, hn, rfl⟩ := mem_ints (ns := [1 + k, 1 + k - 1]) hd
          have hn2 : 0 ≤ n ∧ n ≤ 1000 := by simp at hn; omega
          refine za_nil ?_
          refine ⟨[_, _, _], rfl, Nat.le_of_ble_eq_true rfl, ?_⟩
          exact hΦ (.keep a n) b4 ⟨ha, hn2⟩ g4
        · refine zs_nil ?_
          refine zs_cons ?_
          refine zs_ret ?_
          refine ze_if ?_
          refine zt_cmp ?_
          refine zc_eq hr ?_
          refine ze_name 7 rfl ?_
          refine ze_int ?_
          refine ⟨_, _, rfl, rfl, rfl, rfl, ?_⟩
          refine ⟨_, rfl, ?_⟩
          first | refine ifeq (fun hc => ?_) (fun hc => ?_) | refine ifeqs (fun hc => ?_) (fun hc => ?_) | refine ifd (fun hc => ?_) (fun hc => ?_) | refine ifb (fun hc => ?_) (fun hc => ?_)
          · refine ze_tup ?_
            refine za_cons ?_
            refine ze_str ?_
            refine za_cons ?_
            refine ze_ix hr ?_
            refine ze_name 5 rfl ?_
            refine ze_int ?_
            refine IxW.list (ds := [.str a, .str c]) rfl ?_
            refine za_cons ?_
            refine ze_name 6 rfl ?_
            refine za_cons ?_
            refine ze_ix hr ?_
            refine ze_name 5 rfl ?_
            refine ze_int ?_
            refine IxW.list (ds := [.str a, .str c]) rfl ?_
            refine za_nil ?_
            refine ⟨[_, _, _, _], rfl, Nat.le_of_ble_eq_true rfl, ?_⟩
            first | exact hΦ (.move a (1 + k) c) b3 ⟨ha, by omega, by omega, hcm, nac⟩ g3 | exact hΦ (.merge a c) b3 ⟨ha, hcm, nac⟩ g3
          · refine ze_tup ?_
            refine za_cons ?_
            refine ze_str ?_
            refine za_cons ?_
            refine ze_ix hr ?_
            refine ze_name 5 rfl ?_
            refine ze_int ?_
            refine IxW.list (ds := [.str a, .str c]) rfl ?_
            refine za_cons ?_
            refine ze_ix hr ?_
            refine ze_name 5 rfl ?_
            refine ze_int ?_
            refine IxW.list (ds := [.str a, .str c]) rfl ?_
            refine za_nil ?_
            refine ⟨[_, _, _], rfl, Nat.le_of_ble_eq_true rfl, ?_⟩
            first | exact hΦ (.move a (1 + k) c) b3 ⟨ha, by omega, by omega, hcm, nac⟩ g3 | exact hΦ (.merge a c) b3 ⟨ha, hcm, nac⟩ g3
theorem nd_script : (n_script : List Str).Nodup := by decide +kernel
theorem f_script {T : Top} (bn : Bn T) (d : DefAt T "_law_script" s_script) (c_take : Fz T 1 "_law_take" ["_law_bag_here", "_law_many"] takeS) (c_deed : Fz T 3 "_law_deed" ["_law_bag_here", "_law_house_here", "_law_pool", "_law_most"] deedS) : Fz T 4 "_law_script" ["_law_bag_here", "_law_house_here", "_law_pool", "_law_many", "_law_most"] scriptS := by
  refine fz_of d sc_script (fun _ _ _ _ _ _ us hl => match us, hl with | [_, _, _, _, _], _ => rfl) ?_
  intro f cdv A outer s H E ws M Φ hr _ hS
  have nd := nd_script
  obtain ⟨b0, R, h, pool, many, most, rfl, rfl, g0, ok, p0, p1, m0, m1, q0, q1, hΦ⟩ := hS
  refine zs_cons ?_
  refine zs_ret ?_
  refine zk_tuple bn.tuple ?_
  refine ze_lc (own := [("_law_turn", 5)]) rfl nd (blkOk_by (by show blkC n_script (defScope s_script) _ _ = true; decide +kernel)) ?_
  refine zi_range1 bn.range ?_
  refine ze_call (c_take.mono (by decide)) ⟨rfl, rfl, rfl, rfl, rfl⟩ hr ?_
  refine za_cons ?_
  refine ze_name 0 rfl ?_
  refine za_cons ?_
  refine ze_add ?_
  refine ze_name 3 rfl ?_
  refine ze_int ?_
  refine AddW.int ?_
  refine za_nil ?_
  refine ⟨rfl, ?_⟩
  refine ⟨b0, R, _, rfl, rfl, g0, by omega, by omega, fun n b1 n0 n1 g1 => ?_⟩
  refine ⟨n.toNat, by rw [Int.toNat_of_nonneg n0], by omega, ?_⟩
  refine LcT.any _ (fun M1 => ∃ b2 : Bag, M1 = bagO b2 :: R ∧ b2.Good) (fun z => ∃ d, DeedOk (h.map (·.name)) pool d ∧ z = deedD d) (by rw [List.length_map, List.length_range]; unfold sizeLine; omega) ⟨b1, rfl, g1⟩ (fun d _ M1 hJ B => ?_) (fun zs M1 zl hz hJ => ?_)
  · obtain ⟨b2, rfl, g2⟩ := hJ
    refine zgb_name 5 (hN := nd) ?_
    intro B
    refine ze_call (c_deed.mono (by decide)) ⟨rfl, rfl, rfl, rfl, rfl⟩ hr ?_
    refine za_cons ?_
    refine ze_name 0 rfl ?_
    refine za_cons ?_
    refine ze_name 1 rfl ?_
    refine za_cons ?_
    refine ze_name 2 rfl ?_
    refine za_cons ?_
    refine ze_name 4 rfl ?_
    refine za_nil ?_
    refine ⟨rfl, ?_⟩
    refine ⟨b2, R, h, pool, most, rfl, rfl, g2, ok, p0, p1, q0, q1, fun dd b3 okd g3 => ?_⟩
    exact ⟨⟨_, rfl, dd, okd, rfl⟩, b3, rfl, g3⟩
  obtain ⟨b2, rfl, g2⟩ := hJ
  obtain ⟨ds, rfl, hds⟩ := all_of hz
  rw [List.length_map, List.length_map, List.length_range] at zl
  refine ⟨_, rfl, ?_⟩
  refine ⟨_, .inl rfl, ?_⟩
  exact hΦ ds b2 (by omega) hds g2
end K84

namespace K84
open PySem PySem.Spec PyProof.Rows L2 Z
theorem nd_alike : (n_alike : List Str).Nodup := by decide +kernel
theorem f_alike {T : Top} (bn : Bn T) (d : DefAt T "_law_alike" s_alike) : Fz T 1 "_law_alike" ["_law_found", "_law_due"] alikeS := by
  refine fz_of d sc_alike (fun _ _ _ _ _ _ us hl => match us, hl with | [_, _], _ => rfl) ?_
  intro f cdv A outer s H E ws M Φ hr _ hS
  have nd := nd_alike
  obtain ⟨d, rfl, pl, hΦ⟩ := hS
  refine zs_cons ?_
  refine zs_ret ?_
  refine ze_and ?_
  refine ze_cmp ?_
  refine zc_eq hr ?_
  refine ze_name 0 rfl ?_
  refine ze_name 1 rfl ?_
  refine ⟨_, _, rfl, rfl, pl.sh, pl.sh, ?_⟩
  refine ⟨_, rfl, ?_⟩
  rw [pl.eq]
  refine ift ?_
  refine ze_one ?_
  refine ze_cmp ?_
  refine zc_eqS ?_
  refine zk_repr hr bn.sys bn.repr ?_
  refine ze_name 0 rfl ?_
  refine ⟨_, rfl, pl.sw, pl.dp, pl.ln, ?_⟩
  refine zk_repr hr bn.sys bn.repr ?_
  refine ze_name 1 rfl ?_
  refine ⟨_, rfl, pl.sw, pl.dp, pl.ln, ?_⟩
  refine ⟨_, _, rfl, rfl, ?_⟩
  rw [decide_eq_true rfl]
  exact hΦ
theorem nd_more : (n_more : List Str).Nodup := by decide +kernel
theorem f_more {T : Top} (bn : Bn T) (d : DefAt T "_law_more" s_more) (c_one : Fz T 2 "_law_one" ["_law_bag_here", "_law_things"] oneS) : Fz T 3 "_law_more" ["_law_bag_here", "_law_counts"] moreS := by
  refine fz_of d sc_more (fun _ _ _ _ _ _ us hl => match us, hl with | [_, _], _ => rfl) ?_
  intro f cdv A outer s H E ws M Φ hr _ hS
  have nd := nd_more
  obtain ⟨b0, R, c, rfl, rfl, g0, hl, hΦ⟩ := hS
  refine zs_cons ?_
  refine zs_ret ?_
  refine zk_tuple bn.tuple ?_
  refine ze_lc (own := [("_law_many", 2)]) rfl nd (blkOk_by (by first | (show blkC n_more (defScope s_more) _ _ = true; decide +kernel) | rfl)) ?_
  refine zi_seq ?_
  refine ze_name 1 rfl ?_
  refine SeqW.tuple ?_
  refine ⟨fun i acc M1 => ∃ (b1 : Bag) (ns : List Int), M1 = bagO b1 :: R ∧ b1.Good ∧ acc = ns.map (fun n => .d (.int n)) ∧ ns.length = (c.take i).length ∧ ∀ p ∈ List.zip (c.take i) ns, p.1 ≤ p.2 ∧ p.2 ≤ p.1 + 3, ⟨?_, fun i d acc M1 hd hI B => ?_, fun acc M1 hI => ?_⟩⟩
  · exact ⟨b0, [], rfl, g0, rfl, rfl, by simp⟩
  · obtain ⟨b1, ns, rfl, g1, rfl, hn, hz⟩ := hI
    obtain ⟨m, hm, rfl⟩ := get_map hd
    refine zgb_name 2 (hN := nd) ?_
    intro B
    refine zts_nil ?_
    refine ift fun B => ?_
    refine ze_add ?_
    refine ze_name 2 rfl ?_
    refine ze_call (c_one.mono (by decide)) ⟨rfl, rfl, rfl, rfl, rfl⟩ hr ?_
    refine za_cons ?_
    refine ze_name 0 rfl ?_
    refine za_cons ?_
    refine ze_lst ?_
    refine za_cons ?_
    refine ze_int ?_
    refine za_cons ?_
    refine ze_int ?_
    refine za_cons ?_
    refine ze_int ?_
    refine za_cons ?_
    refine ze_int ?_
    refine za_nil ?_
    refine ⟨[_, _, _, _], rfl, Nat.le_of_ble_eq_true rfl, ?_⟩
    refine za_nil ?_
    refine ⟨rfl, ?_⟩
    refine ⟨b1, R, _, _, rfl, rfl, .inl rfl, g1, by decide, by decide, fun d b2 hd g2 => ?_⟩
    obtain ⟨v, hv, rfl⟩ := mem_ints (ns := [0, 1, 0, 3]) hd
    have hv2 : 0 ≤ v ∧ v ≤ 3 := by simp at hv; omega
    refine AddW.int ?_
    have lt : (c.take i).length ≤ c.length := by rw [List.length_take]; omega
    refine ⟨by rw [List.length_map, hn]; unfold sizeLine; omega, b2, ns ++ [m + v], rfl, g2, by simp, by rw [take_next hm, List.length_append, List.length_append, hn]; rfl, fun p hp => ?_⟩
    rw [take_next hm, List.zip_append hn.symm] at hp
    rcases List.mem_append.mp hp with z | z
    · exact hz p z
    · have e : p = (m, m + v) := by simpa using z
      subst e
      show m ≤ m + v ∧ m + v ≤ m + 3
      omega
  · obtain ⟨b1, ns, rfl, g1, rfl, hn, hz⟩ := hI
    rw [List.length_map, List.take_length] at hn hz
    refine ⟨ns.map .int, by rw [List.map_map]; rfl, ?_⟩
    refine ⟨_, .inl rfl, ?_⟩
    exact hΦ ns b1 hn hz g1
theorem nd_within : (n_within : List Str).Nodup := by decide +kernel
theorem f_within {T : Top} (bn : Bn T) (d : DefAt T "_law_within" s_within) : Fz T 1 "_law_within" ["_law_one_here", "_law_other"] withinS := by
  refine fz_of d sc_within (fun _ _ _ _ _ _ us hl => match us, hl with | [_, _], _ => rfl) ?_
  intro f cdv A outer s H E ws M Φ hr _ hS
  have nd := nd_within
  obtain ⟨c, c2, rfl, hl, hle, hΦ⟩ := hS
  refine zs_cons ?_
  refine zs_ret ?_
  refine ze_cmp ?_
  refine zc_eq hr ?_
  refine ze_lc (own := [("_law_few", 2), ("_law_many", 3)]) rfl nd (blkOk_by (by first | (show blkC n_within (defScope s_within) _ _ = true; decide +kernel) | rfl)) ?_
  refine zi_zip bn.zip ?_
  refine ze_name 0 rfl ?_
  refine ze_name 1 rfl ?_
  refine ⟨_, _, .inr ⟨rfl, rfl⟩, ?_⟩
  rw [pairs_ints]
  refine LcT.pure (List.zip c c2) (fun p : Int × Int => .tuple [.int p.1, .int p.2]) (fun _ => none) (by rw [List.length_zip]; unfold sizeLine; omega) (fun p hp B => ?_) ?_
  · have hp2 := hle p hp
    refine zgb_tup rfl ?_ rfl
    refine zgbs_name 2 (hN := nd) ?_
    refine zgbs_name 3 (hN := nd) ?_
    refine zgbs_nil ?_
    intro B
    refine zts_one ?_
    refine zt_cmp ?_
    refine zc_gt ?_
    refine ze_name 2 rfl ?_
    refine ze_name 3 rfl ?_
    refine ⟨_, _, rfl, rfl, ?_⟩
    refine ⟨_, rfl, ?_⟩
    refine ifd (fun hc => ?_) (fun hc => ?_)
    · intro B
      refine ze_int ?_
      exact absurd hc (by omega)
    · exact ⟨rfl, rfl⟩
  rw [List.filterMap_eq_nil_iff.mpr (fun _ _ => rfl)]
  refine ⟨[], rfl, ?_⟩
  refine ze_lst ?_
  refine za_nil ?_
  refine ⟨[], rfl, Nat.le_of_ble_eq_true rfl, ?_⟩
  refine ⟨_, _, rfl, rfl, rfl, rfl, ?_⟩
  exact hΦ
theorem nd_at : (n_at : List Str).Nodup := by decide +kernel
theorem f_at {T : Top} (bn : Bn T) (d : DefAt T "_law_at" s_at) : Fz T 1 "_law_at" ["_law_house_here", "_law_table_here", "_law_number"] atS := by
  refine fz_of d sc_at (fun _ _ _ _ _ _ us hl => match us, hl with | [_, _, _], _ => rfl) ?_
  intro f cdv A outer s H E ws M Φ hr _ hS
  have nd := nd_at
  obtain ⟨h, t, num, rfl, ok, hin, hlen, hΦ⟩ := hS
  have hn1 := ok.n1
  refine zs_cons ?_
  refine zs_ret ?_
  refine zk_tuple bn.tuple ?_
  refine ze_lc (own := [("_law_sort_here", 3)]) rfl nd (blkOk_by (by first | (show blkC n_at (defScope s_at) _ _ = true; decide +kernel) | rfl)) ?_
  refine zi_seq ?_
  refine ze_name 0 rfl ?_
  refine SeqW.tuple ?_
  refine LcT.map h rowD (fun r => .int (cnt num (getT t r.name))) (by unfold sizeLine; omega) (fun r hr1 B => ?_) ?_
  · have hi := hin r hr1
    have hlr := getT_len hi hlen
    refine zgb_name 3 (hN := nd) ?_
    intro B
    refine zk_len bn.len ?_
    refine ze_lc (own := [("_law_row", 4)]) rfl nd (blkOk_by (by first | (show blkC n_at (defScope s_at) _ _ = true; decide +kernel) | rfl)) ?_
    refine zi_seq ?_
    refine ze_ix hr ?_
    refine ze_name 1 rfl ?_
    refine ze_ix hr ?_
    refine ze_name 3 rfl ?_
    refine ze_int ?_
    refine IxW.tuple (ds := [.str r.name, .int r.least, optD r.most]) rfl ?_
    refine IxW.get (q := .inr r.name) (.inl ⟨_, rfl, by rw [look_tab hi]; rfl⟩) ?_
    refine SeqW.tuple ?_
    refine LcT.pure (getT t r.name) .int (fun n => if decide (num ≤ n) = true then some (.int n) else none) (by unfold sizeLine; omega) (fun n hn B => ?_) ?_
    · skip
      refine zgb_name 4 (hN := nd) ?_
      intro B
      refine zts_one ?_
      refine zt_cmp ?_
      refine zc_ge ?_
      refine ze_name 4 rfl ?_
      refine ze_name 2 rfl ?_
      refine ⟨_, _, rfl, rfl, ?_⟩
      refine ⟨_, rfl, ?_⟩
      refine ifd (fun hc => ?_) (fun hc => ?_)
      · intro B
        refine ze_name 4 rfl ?_
        exact ⟨⟨_, rfl, by rw [if_pos (decide_eq_true hc)]⟩, rfl⟩
      · exact ⟨by rw [if_neg (by simpa using hc)], rfl⟩
    rw [cnt_filter]
    refine ⟨_, rfl, ?_⟩
    refine ⟨_, LenW.list, ?_⟩
    exact ⟨by rw [List.length_map]; rfl, rfl⟩
  refine ⟨_, rfl, ?_⟩
  refine ⟨_, .inl rfl, ?_⟩
  exact hΦ
theorem nd_marks : (n_marks : List Str).Nodup := by decide +kernel
theorem f_marks {T : Top} (bn : Bn T) (d : DefAt T "_law_marks" s_marks) : Fz T 1 "_law_marks" ["_law_script_here"] marksS := by
  refine fz_of d sc_marks (fun _ _ _ _ _ _ us hl => match us, hl with | [_], _ => rfl) ?_
  intro f cdv A outer s H E ws M Φ hr _ hS
  have nd := nd_marks
  obtain ⟨ds, rfl, hl, hΦ⟩ := hS
  refine zs_cons ?_
  refine zs_ret ?_
  refine zk_sortedSet bn.sorted bn.set rfl ?_
  refine ze_lc (own := [("_law_deed_here", 1)]) rfl nd (blkOk_by (by first | (show blkC n_marks (defScope s_marks) _ _ = true; decide +kernel) | rfl)) ?_
  refine zi_seq ?_
  refine ze_name 0 rfl ?_
  refine SeqW.tuple ?_
  refine LcT.pure ds deedD (fun d => (comeN d).map .int) (by unfold sizeLine; omega) (fun d hd B => ?_) ?_
  · obtain ⟨wd, rest, hwd, hd0⟩ := deed_word d
    refine zgb_name 1 (hN := nd) ?_
    intro B
    refine zts_one ?_
    refine zt_cmp ?_
    refine zc_eqS ?_
    refine ze_ix hr ?_
    refine ze_name 1 rfl ?_
    refine ze_int ?_
    refine IxW.tupE hd0 (atI_zero _ _) ?_
    refine ze_str ?_
    refine ⟨_, _, rfl, rfl, ?_⟩
    refine ⟨_, rfl, ?_⟩
    refine ifd (fun hc => ?_) (fun hc => ?_)
    · intro B
      refine ze_ix hr ?_
      refine ze_name 1 rfl ?_
      refine ze_int ?_
      obtain ⟨a, n, rfl⟩ := hwd.1 hc
      refine IxW.tuple (ds := [.str "come", .str a, .int n]) rfl ?_
      exact ⟨⟨_, rfl, rfl⟩, rfl⟩
    · exact ⟨by rw [hwd.2 hc]; rfl, rfl⟩
  rw [comes_map]
  refine ⟨_, rfl, ?_⟩
  refine ⟨comesOf ds, rfl, by have := comes_len ds; omega, ?_⟩
  exact hΦ
theorem nd_p_marks_of : (n_p_marks_of : List Str).Nodup := by decide +kernel
theorem f_p_marks_of {T : Top} (bn : Bn T) (d : DefAt T "marks_of" s_p_marks_of) : Fz T 1 "marks_of" ["script"] marksS := by
  refine fz_of d sc_p_marks_of (fun _ _ _ _ _ _ us hl => match us, hl with | [_], _ => rfl) ?_
  intro f cdv A outer s H E ws M Φ hr _ hS
  have nd := nd_p_marks_of
  obtain ⟨ds, rfl, hl, hΦ⟩ := hS
  refine zs_cons ?_
  refine zs_ret ?_
  refine zk_sortedSc bn.sorted (own := [("deed", 1)]) rfl nd (blkOk_by (by first | (show blkC n_p_marks_of (defScope s_p_marks_of) _ _ = true; decide +kernel) | rfl)) ?_
  refine zi_seq ?_
  refine ze_name 0 rfl ?_
  refine SeqW.tuple ?_
  refine ScT.pure ds deedD comeN (by omega) (fun d hd B => ?_) ?_
  · obtain ⟨wd, rest, hwd, hd0⟩ := deed_word d
    refine zgb_name 1 (hN := nd) ?_
    intro B
    refine zts_one ?_
    refine zt_cmp ?_
    refine zc_eqS ?_
    refine ze_ix hr ?_
    refine ze_name 1 rfl ?_
    refine ze_int ?_
    refine IxW.tupE hd0 (atI_zero _ _) ?_
    refine ze_str ?_
    refine ⟨_, _, rfl, rfl, ?_⟩
    refine ⟨_, rfl, ?_⟩
    refine ifd (fun hc => ?_) (fun hc => ?_)
    · intro B
      refine ze_ix hr ?_
      refine ze_name 1 rfl ?_
      refine ze_int ?_
      obtain ⟨a, n, rfl⟩ := hwd.1 hc
      refine IxW.tuple (ds := [.str "come", .str a, .int n]) rfl ?_
      exact ⟨⟨_, rfl, rfl⟩, rfl⟩
    · exact ⟨hwd.2 hc, rfl⟩
  intro ks hks
  obtain rfl : comesOf ds = ks := ints_inj hks
  exact hΦ
end K84

namespace K84
open PySem PySem.Spec PyProof.Rows L2 Z
theorem nd_p_after_deed : (n_p_after_deed : List Str).Nodup := by decide +kernel
theorem f_p_after_deed {T : Top} (bn : Bn T) (d : DefAt T "after_deed" s_p_after_deed) : Fz T 1 "after_deed" ["now", "deed", "number"] afterS := by
  refine fz_of d sc_p_after_deed (fun _ _ _ _ _ _ us hl => match us, hl with | [_, _, _], _ => rfl) ?_
  intro f cdv A outer s H E ws M Φ hr _ hS
  have nd := nd_p_after_deed
  obtain ⟨j, cs, d, num, rfl, hM, hin, hl, hΦ⟩ := hS
  rcases d with ⟨a, n⟩ | ⟨a, k⟩ | ⟨a, k⟩ | ⟨a, k, b⟩ | ⟨a, b⟩
  · have ha : a ∈ cs.map (·.1) := hin
    refine zs_cons ?_
    refine zs_set 3 (hN := nd) ?_
    refine ze_ix hr ?_
    refine ze_name 1 rfl ?_
    refine ze_int ?_
    refine IxW.tuple (ds := [.str "come", .str a, .int n]) rfl ?_
    refine zs_cons ?_
    refine zs_if ?_
    refine zt_cmp ?_
    refine zc_eqS ?_
    refine ze_ix hr ?_
    refine ze_name 1 rfl ?_
    refine ze_int ?_
    refine IxW.tuple (ds := [.str "come", .str a, .int n]) rfl ?_
    refine ze_str ?_
    refine ⟨_, _, rfl, rfl, ?_⟩
    refine ⟨_, rfl, ?_⟩
    refine ifd (fun _ => ?_) (fun hc => absurd rfl hc)
    refine zs_cons ?_
    refine zs_aug hr ip_add ?_
    refine ze_name 0 rfl ?_
    refine ze_name 3 rfl ?_
    refine .inr ⟨.inr a, _, rfl, .inr ⟨j, _, rfl, hM, (look_encA ha).symm⟩, ?_⟩
    refine zk_int bn.int ?_
    refine ze_cmp ?_
    refine zc_le ?_
    refine ze_name 2 rfl ?_
    refine ze_ix hr ?_
    refine ze_name 1 rfl ?_
    refine ze_int ?_
    refine IxW.tuple (ds := [.str "come", .str a, .int n]) rfl ?_
    refine ⟨_, _, rfl, rfl, ?_⟩
    refine .inr ⟨_, rfl, ?_⟩
    refine ⟨_, _, rfl, rfl, .inr ⟨j, _, .inr a, rfl, rfl, hM, by rw [encA_len]; unfold sizeLine; omega, ?_⟩⟩
    rw [put_encA _ ha]
    refine zs_nil ?_
    refine zs_nil ?_
    exact hΦ
  · have ha : a ∈ cs.map (·.1) := hin
    refine zs_cons ?_
    refine zs_set 3 (hN := nd) ?_
    refine ze_ix hr ?_
    refine ze_name 1 rfl ?_
    refine ze_int ?_
    refine IxW.tuple (ds := [.str "go", .str a, .int k]) rfl ?_
    refine zs_cons ?_
    refine zs_if ?_
    refine zt_cmp ?_
    refine zc_eqS ?_
    refine ze_ix hr ?_
    refine ze_name 1 rfl ?_
    refine ze_int ?_
    refine IxW.tuple (ds := [.str "go", .str a, .int k]) rfl ?_
    refine ze_str ?_
    refine ⟨_, _, rfl, rfl, ?_⟩
    refine ⟨_, rfl, ?_⟩
    refine ifd (fun hc => absurd hc (by decide)) (fun _ => ?_)
    refine zs_cons ?_
    refine zs_if ?_
    refine zt_cmp ?_
    refine zc_eqS ?_
    refine ze_ix hr ?_
    refine ze_name 1 rfl ?_
    refine ze_int ?_
    refine IxW.tuple (ds := [.str "go", .str a, .int k]) rfl ?_
    refine ze_str ?_
    refine ⟨_, _, rfl, rfl, ?_⟩
    refine ⟨_, rfl, ?_⟩
    refine ifd (fun hc => absurd hc (by decide)) (fun _ => ?_)
    refine zs_cons ?_
    refine zs_if ?_
    refine zt_cmp ?_
    refine zc_eqS ?_
    refine ze_ix hr ?_
    refine ze_name 1 rfl ?_
    refine ze_int ?_
    refine IxW.tuple (ds := [.str "go", .str a, .int k]) rfl ?_
    refine ze_str ?_
    refine ⟨_, _, rfl, rfl, ?_⟩
    refine ⟨_, rfl, ?_⟩
    refine ifd (fun hc => absurd hc (by decide)) (fun _ => ?_)
    refine zs_cons ?_
    refine zs_if ?_
    refine zt_cmp ?_
    refine zc_ge ?_
    refine ze_ix hr ?_
    refine ze_name 0 rfl ?_
    refine ze_name 3 rfl ?_
    refine IxW.get (q := .inr a) (.inr ⟨j, _, rfl, hM, (look_encA ha).symm⟩) ?_
    refine ze_ix hr ?_
    refine ze_name 1 rfl ?_
    refine ze_int ?_
    refine IxW.tuple (ds := [.str "go", .str a, .int k]) rfl ?_
    refine ⟨_, _, rfl, rfl, ?_⟩
    refine ⟨_, rfl, ?_⟩
    refine ifd (fun hc => ?_) (fun hc => ?_)
    · refine zs_cons ?_
      refine zs_aug hr ip_sub ?_
      refine ze_name 0 rfl ?_
      refine ze_name 3 rfl ?_
      refine .inr ⟨.inr a, _, rfl, .inr ⟨j, _, rfl, hM, (look_encA ha).symm⟩, ?_⟩
      refine ze_int ?_
      refine ⟨_, _, rfl, rfl, .inr ⟨j, _, .inr a, rfl, rfl, hM, by rw [encA_len]; unfold sizeLine; omega, ?_⟩⟩
      rw [put_encA _ ha]
      refine zs_cons ?_
      refine zs_if ?_
      refine zt_cmp ?_
      refine zc_eqS ?_
      refine ze_ix hr ?_
      refine ze_name 1 rfl ?_
      refine ze_int ?_
      refine IxW.tuple (ds := [.str "go", .str a, .int k]) rfl ?_
      refine ze_str ?_
      refine ⟨_, _, rfl, rfl, ?_⟩
      refine ⟨_, rfl, ?_⟩
      refine ifd (fun hc => absurd hc (by decide)) (fun _ => ?_)
      refine zs_nil ?_
      refine zs_nil ?_
      refine zs_nil ?_
      refine zs_nil ?_
      refine zs_nil ?_
      refine zs_nil ?_
      first | (rw [show stepA num cs (.go a k) = _ from if_pos hc] at hΦ; exact hΦ) | (rw [show stepA num cs (.go a k) = cs from if_neg hc, cell_same hM] at hΦ; exact hΦ)
    · refine zs_nil ?_
      refine zs_nil ?_
      refine zs_nil ?_
      refine zs_nil ?_
      refine zs_nil ?_
      first | (rw [show stepA num cs (.go a k) = _ from if_pos hc] at hΦ; exact hΦ) | (rw [show stepA num cs (.go a k) = cs from if_neg hc, cell_same hM] at hΦ; exact hΦ)
  · have ha : a ∈ cs.map (·.1) := hin
    refine zs_cons ?_
    refine zs_set 3 (hN := nd) ?_
    refine ze_ix hr ?_
    refine ze_name 1 rfl ?_
    refine ze_int ?_
    refine IxW.tuple (ds := [.str "keep", .str a, .int k]) rfl ?_
    refine zs_cons ?_
    refine zs_if ?_
    refine zt_cmp ?_
    refine zc_eqS ?_
    refine ze_ix hr ?_
    refine ze_name 1 rfl ?_
    refine ze_int ?_
    refine IxW.tuple (ds := [.str "keep", .str a, .int k]) rfl ?_
    refine ze_str ?_
    refine ⟨_, _, rfl, rfl, ?_⟩
    refine ⟨_, rfl, ?_⟩
    refine ifd (fun hc => absurd hc (by decide)) (fun _ => ?_)
    refine zs_cons ?_
    refine zs_if ?_
    refine zt_cmp ?_
    refine zc_eqS ?_
    refine ze_ix hr ?_
    refine ze_name 1 rfl ?_
    refine ze_int ?_
    refine IxW.tuple (ds := [.str "keep", .str a, .int k]) rfl ?_
    refine ze_str ?_
    refine ⟨_, _, rfl, rfl, ?_⟩
    refine ⟨_, rfl, ?_⟩
    refine ifd (fun hc => absurd hc (by decide)) (fun _ => ?_)
    refine zs_cons ?_
    refine zs_if ?_
    refine zt_cmp ?_
    refine zc_eqS ?_
    refine ze_ix hr ?_
    refine ze_name 1 rfl ?_
    refine ze_int ?_
    refine IxW.tuple (ds := [.str "keep", .str a, .int k]) rfl ?_
    refine ze_str ?_
    refine ⟨_, _, rfl, rfl, ?_⟩
    refine ⟨_, rfl, ?_⟩
    refine ifd (fun _ => ?_) (fun hc => absurd rfl hc)
    refine zs_cons ?_
    refine zs_asg ?_
    refine zk_min bn.min rfl ?_
    refine ze_ix hr ?_
    refine ze_name 0 rfl ?_
    refine ze_name 3 rfl ?_
    refine IxW.get (q := .inr a) (.inr ⟨j, _, rfl, hM, (look_encA ha).symm⟩) ?_
    refine ze_ix hr ?_
    refine ze_name 1 rfl ?_
    refine ze_int ?_
    refine IxW.tuple (ds := [.str "keep", .str a, .int k]) rfl ?_
    refine ⟨_, _, rfl, rfl, ?_⟩
    refine zg_sub hr ?_
    refine ze_name 0 rfl ?_
    refine ze_name 3 rfl ?_
    refine .inr ⟨j, _, .inr a, rfl, rfl, hM, by rw [encA_len]; unfold sizeLine; omega, ?_⟩
    rw [put_encA _ ha]
    refine zs_nil ?_
    refine zs_nil ?_
    refine zs_nil ?_
    refine zs_nil ?_
    exact hΦ
  · obtain ⟨ha, hb, hab⟩ := hin
    refine zs_cons ?_
    refine zs_set 3 (hN := nd) ?_
    refine ze_ix hr ?_
    refine ze_name 1 rfl ?_
    refine ze_int ?_
    refine IxW.tuple (ds := [.str "move", .str a, .int k, .str b]) rfl ?_
    refine zs_cons ?_
    refine zs_if ?_
    refine zt_cmp ?_
    refine zc_eqS ?_
    refine ze_ix hr ?_
    refine ze_name 1 rfl ?_
    refine ze_int ?_
    refine IxW.tuple (ds := [.str "move", .str a, .int k, .str b]) rfl ?_
    refine ze_str ?_
    refine ⟨_, _, rfl, rfl, ?_⟩
    refine ⟨_, rfl, ?_⟩
    refine ifd (fun hc => absurd hc (by decide)) (fun _ => ?_)
    refine zs_cons ?_
    refine zs_if ?_
    refine zt_cmp ?_
    refine zc_eqS ?_
    refine ze_ix hr ?_
    refine ze_name 1 rfl ?_
    refine ze_int ?_
    refine IxW.tuple (ds := [.str "move", .str a, .int k, .str b]) rfl ?_
    refine ze_str ?_
    refine ⟨_, _, rfl, rfl, ?_⟩
    refine ⟨_, rfl, ?_⟩
    refine ifd (fun hc => absurd hc (by decide)) (fun _ => ?_)
    refine zs_cons ?_
    refine zs_if ?_
    refine zt_cmp ?_
    refine zc_eqS ?_
    refine ze_ix hr ?_
    refine ze_name 1 rfl ?_
    refine ze_int ?_
    refine IxW.tuple (ds := [.str "move", .str a, .int k, .str b]) rfl ?_
    refine ze_str ?_
    refine ⟨_, _, rfl, rfl, ?_⟩
    refine ⟨_, rfl, ?_⟩
    refine ifd (fun hc => absurd hc (by decide)) (fun _ => ?_)
    refine zs_cons ?_
    refine zs_if ?_
    refine zt_cmp ?_
    refine zc_ge ?_
    refine ze_ix hr ?_
    refine ze_name 0 rfl ?_
    refine ze_name 3 rfl ?_
    refine IxW.get (q := .inr a) (.inr ⟨j, _, rfl, hM, (look_encA ha).symm⟩) ?_
    refine ze_ix hr ?_
    refine ze_name 1 rfl ?_
    refine ze_int ?_
    refine IxW.tuple (ds := [.str "move", .str a, .int k, .str b]) rfl ?_
    refine ⟨_, _, rfl, rfl, ?_⟩
    refine ⟨_, rfl, ?_⟩
    refine ifd (fun hc => ?_) (fun hc => ?_)
    · refine zs_cons ?_
      refine zs_aug hr ip_sub ?_
      refine ze_name 0 rfl ?_
      refine ze_name 3 rfl ?_
      refine .inr ⟨.inr a, _, rfl, .inr ⟨j, _, rfl, hM, (look_encA ha).symm⟩, ?_⟩
      refine ze_int ?_
      refine ⟨_, _, rfl, rfl, .inr ⟨j, _, .inr a, rfl, rfl, hM, by rw [encA_len]; unfold sizeLine; omega, ?_⟩⟩
      rw [put_encA _ ha]
      refine zs_cons ?_
      refine zs_if ?_
      refine zt_cmp ?_
      refine zc_eqS ?_
      refine ze_ix hr ?_
      refine ze_name 1 rfl ?_
      refine ze_int ?_
      refine IxW.tuple (ds := [.str "move", .str a, .int k, .str b]) rfl ?_
      refine ze_str ?_
      refine ⟨_, _, rfl, rfl, ?_⟩
      refine ⟨_, rfl, ?_⟩
      refine ifd (fun _ => ?_) (fun hc => absurd rfl hc)
      refine zs_cons ?_
      refine zs_aug hr ip_add ?_
      refine ze_name 0 rfl ?_
      refine ze_ix hr ?_
      refine ze_name 1 rfl ?_
      refine ze_int ?_
      refine IxW.tuple (ds := [.str "move", .str a, .int k, .str b]) rfl ?_
      refine .inr ⟨.inr b, _, rfl, .inr ⟨j, _, rfl, cell_set hM, (look_encA (setA_mem hb)).symm⟩, ?_⟩
      refine ze_int ?_
      refine ⟨_, _, rfl, rfl, .inr ⟨j, _, .inr b, rfl, rfl, cell_set hM, by rw [encA_len, setA_len]; unfold sizeLine; omega, ?_⟩⟩
      rw [put_encA _ (setA_mem hb), List.set_set]
      refine zs_nil ?_
      refine zs_nil ?_
      refine zs_nil ?_
      refine zs_nil ?_
      refine zs_nil ?_
      refine zs_nil ?_
      first | (rw [show stepA num cs (.move a k b) = _ from if_pos hc] at hΦ; exact hΦ) | (rw [show stepA num cs (.move a k b) = cs from if_neg hc, cell_same hM] at hΦ; exact hΦ)
    · refine zs_nil ?_
      refine zs_nil ?_
      refine zs_nil ?_
      refine zs_nil ?_
      refine zs_nil ?_
      first | (rw [show stepA num cs (.move a k b) = _ from if_pos hc] at hΦ; exact hΦ) | (rw [show stepA num cs (.move a k b) = cs from if_neg hc, cell_same hM] at hΦ; exact hΦ)
  · obtain ⟨ha, hb, hab⟩ := hin
    refine zs_cons ?_
    refine zs_set 3 (hN := nd) ?_
    refine ze_ix hr ?_
    refine ze_name 1 rfl ?_
    refine ze_int ?_
    refine IxW.tuple (ds := [.str "merge", .str a, .str b]) rfl ?_
    refine zs_cons ?_
    refine zs_if ?_
    refine zt_cmp ?_
    refine zc_eqS ?_
    refine ze_ix hr ?_
    refine ze_name 1 rfl ?_
    refine ze_int ?_
    refine IxW.tuple (ds := [.str "merge", .str a, .str b]) rfl ?_
    refine ze_str ?_
    refine ⟨_, _, rfl, rfl, ?_⟩
    refine ⟨_, rfl, ?_⟩
    refine ifd (fun hc => absurd hc (by decide)) (fun _ => ?_)
    refine zs_cons ?_
    refine zs_if ?_
    refine zt_cmp ?_
    refine zc_eqS ?_
    refine ze_ix hr ?_
    refine ze_name 1 rfl ?_
    refine ze_int ?_
    refine IxW.tuple (ds := [.str "merge", .str a, .str b]) rfl ?_
    refine ze_str ?_
    refine ⟨_, _, rfl, rfl, ?_⟩
    refine ⟨_, rfl, ?_⟩
    refine ifd (fun _ => ?_) (fun hc => absurd rfl hc)
    refine zs_cons ?_
    refine zs_aug hr ip_add ?_
    refine ze_name 0 rfl ?_
    refine ze_ix hr ?_
    refine ze_name 1 rfl ?_
    refine ze_int ?_
    refine IxW.tuple (ds := [.str "merge", .str a, .str b]) rfl ?_
    refine .inr ⟨.inr b, _, rfl, .inr ⟨j, _, rfl, hM, (look_encA hb).symm⟩, ?_⟩
    refine ze_ix hr ?_
    refine ze_name 0 rfl ?_
    refine ze_name 3 rfl ?_
    refine IxW.get (q := .inr a) (.inr ⟨j, _, rfl, hM, (look_encA ha).symm⟩) ?_
    refine ⟨_, _, rfl, rfl, .inr ⟨j, _, .inr b, rfl, rfl, hM, by rw [encA_len]; unfold sizeLine; omega, ?_⟩⟩
    rw [put_encA _ hb]
    refine zs_cons ?_
    refine zs_asg ?_
    refine ze_int ?_
    refine zg_sub hr ?_
    refine ze_name 0 rfl ?_
    refine ze_name 3 rfl ?_
    refine .inr ⟨j, _, .inr a, rfl, rfl, cell_set hM, by rw [encA_len, setA_len]; unfold sizeLine; omega, ?_⟩
    rw [put_encA _ (setA_mem ha), List.set_set]
    refine zs_nil ?_
    refine zs_nil ?_
    refine zs_nil ?_
    exact hΦ
end K84

namespace K84
open PySem PySem.Spec PyProof.Rows L2 Z
theorem nd_p_counts_behind : (n_p_counts_behind : List Str).Nodup := by decide +kernel
theorem f_p_counts_behind {T : Top} (bn : Bn T) (d : DefAt T "counts_behind" s_p_counts_behind) (c_p_after_deed : Fz T 1 "after_deed" ["now", "deed", "number"] afterS) : Fz T 2 "counts_behind" ["house", "script", "number", "counts"] behindS := by
  refine fz_of d sc_p_counts_behind (fun _ _ _ _ _ _ us hl => match us, hl with | [_, _, _, _], _ => rfl) ?_
  intro f cdv A outer s H E ws M Φ hr _ hS
  have nd := nd_p_counts_behind
  obtain ⟨h, ds, num, c, rfl, ok, hc, hin, hl, hΦ⟩ := hS
  have hn1 := ok.n1
  have hk : (List.zip (sorts h) c).map (·.1) = sorts h := zip_keys (by rw [hc]; unfold sorts; rw [List.length_map])
  have hzl : (List.zip (sorts h) c).length ≤ 9 := by have := congrArg List.length hk; rw [List.length_map] at this; rw [this]; unfold sorts; rw [List.length_map]; omega
  refine zs_cl fun cl => ?_
  refine zs_fin ?_
  refine zs_cons ?_
  refine zs_setLc 4 (own := [("name", 7), ("least", 8), ("most", 9)]) rfl nd (blkOk_by (by first | (show blkC n_p_counts_behind (defScope s_p_counts_behind) _ _ = true; decide +kernel) | rfl)) ?_ rfl
  refine zi_seq ?_
  refine ze_name 0 rfl ?_
  refine SeqW.tuple ?_
  refine LcT.map h rowD (fun r => .str r.name) (by unfold sizeLine; omega) (fun r hr1 B => ?_) ?_
  · skip
    refine zgb_tup rfl ?_ rfl
    refine zgbs_name 7 (hN := nd) ?_
    refine zgbs_name 8 (hN := nd) ?_
    refine zgbs_name 9 (hN := nd) ?_
    refine zgbs_nil ?_
    intro B
    refine ze_name 7 rfl ?_
    exact ⟨rfl, rfl⟩
  refine ⟨_, rfl, ?_⟩
  rw [show (h.map fun r => PyData.str r.name) = (sorts h).map .str by unfold sorts; rw [List.map_map]; rfl]
  refine zs_cons ?_
  refine zs_set 5 (hN := nd) ?_
  refine ze_dictZip rfl bn.dict bn.zip ?_
  refine ze_name 4 rfl ?_
  refine ze_name 3 rfl ?_
  refine ⟨sorts h, c.map .int, rfl, rfl, by unfold sorts; rw [List.length_map, List.length_map]; exact hc.symm, ok.nd, ?_⟩
  rw [zip_enc]
  refine zs_cons ?_
  refine zs_for PassesOwn.never rfl ?_
  refine zi_seq ?_
  refine ze_name 1 rfl ?_
  refine SeqW.tuple ?_
  refine ⟨fun i Γ1 M1 => ∃ o : Option W, Γ1 = [some (.d (houseD h)), some (.d (scriptD ds)), some (.d (.int num)), some (.d (.tuple (c.map .int))), some (.d (.list ((sorts h).map .str))), some (.m M.length), o, none, none, none] ∧ M1 = M ++ [.dic (encA (runA num (List.zip (sorts h) c) (ds.take i)))], ⟨?_, fun i d Γ1 M1 hd hI => ?_, fun Γ1 M1 hI => ?_⟩⟩
  · exact ⟨none, rfl, rfl⟩
  · obtain ⟨o, rfl, rfl⟩ := hI
    obtain ⟨dd, hd1, rfl⟩ := get_map hd
    refine zg_name 6 (hN := nd) ?_
    refine zs_cons ?_
    refine zs_expr ?_
    refine ze_call (c_p_after_deed.mono (by decide)) ⟨rfl, rfl, rfl, rfl, rfl⟩ hr ?_
    refine za_cons ?_
    refine ze_name 5 rfl ?_
    refine za_cons ?_
    refine ze_name 6 rfl ?_
    refine za_cons ?_
    refine ze_name 2 rfl ?_
    refine za_nil ?_
    refine ⟨rfl, ?_⟩
    refine ⟨M.length, _, dd, num, rfl, at_end M _, by rw [runA_keys, hk]; exact hin dd (List.mem_of_getElem? hd1), by rw [runA_len]; omega, ?_⟩
    refine zs_nil ?_
    exact ⟨_, rfl, (set_end M _ _).trans (by rw [take_next hd1, runA_snoc])⟩
  · obtain ⟨o, rfl, rfl⟩ := hI
    rw [List.length_map, List.take_length]
    refine zs_cons ?_
    refine zs_ret ?_
    refine zk_tuple bn.tuple ?_
    refine ze_lc (own := [("name", 7)]) rfl nd (blkOk_by (by first | (show blkC n_p_counts_behind (defScope s_p_counts_behind) _ _ = true; decide +kernel) | rfl)) ?_
    refine zi_seq ?_
    refine ze_name 4 rfl ?_
    refine SeqW.list ?_
    refine LcT.map (sorts h) .str (fun s => .int (getA (runA num (List.zip (sorts h) c) ds) s)) (by unfold sorts; rw [List.length_map]; unfold sizeLine; omega) (fun nm hnm B => ?_) ?_
    · skip
      refine zgb_name 7 (hN := nd) ?_
      intro B
      refine ze_ix hr ?_
      refine ze_name 5 rfl ?_
      refine ze_name 7 rfl ?_
      refine IxW.get (q := .inr nm) (.inr ⟨M.length, _, rfl, at_end M _, (look_encA (by rw [runA_keys, hk]; exact hnm)).symm⟩) ?_
      exact ⟨rfl, rfl⟩
    refine ⟨_, rfl, ?_⟩
    refine ⟨_, .inl rfl, ?_⟩
    have e := read_all (cs := runA num (List.zip (sorts h) c) ds) (by rw [runA_keys, hk]; exact ok.nd)
    rw [runA_keys, hk] at e
    rw [e]
    exact fin_dat (A := M) (Nat.le_refl _) cl hΦ
theorem nd_map : (n_map : List Str).Nodup := by decide +kernel
theorem f_map {T : Top} (bn : Bn T) (d : DefAt T "_law_map" s_map) : Fz T 2 "_law_map" ["_law_house_here", "_law_script_here", "_law_number", "_law_counts"] behindS := by
  refine fz_of d sc_map (fun _ _ _ _ _ _ us hl => match us, hl with | [_, _, _, _], _ => rfl) ?_
  intro f cdv A outer s H E ws M Φ hr _ hS
  have nd := nd_map
  obtain ⟨h, ds, num, c, rfl, ok, hc, hin, hl, hΦ⟩ := hS
  have hn1 := ok.n1
  have hcl : c.length = (sorts h).length := by rw [hc]; unfold sorts; rw [List.length_map]
  have hk : (List.zip (sorts h) c).map (·.1) = sorts h := zip_keys hcl
  refine zs_cl fun cl => ?_
  refine zs_fin ?_
  refine zs_cons ?_
  refine zs_par 4 5 rfl (hN := nd) ?_
  refine ze_lc (own := [("_law_sort_here", 9)]) rfl nd (blkOk_by (by first | (show blkC n_map (defScope s_map) _ _ = true; decide +kernel) | rfl)) ?_
  refine zi_seq ?_
  refine ze_name 0 rfl ?_
  refine SeqW.tuple ?_
  refine LcT.map h rowD (fun r => .str r.name) (by unfold sizeLine; omega) (fun r hr1 B => ?_) ?_
  · skip
    refine zgb_name 9 (hN := nd) ?_
    intro B
    refine ze_ix hr ?_
    refine ze_name 9 rfl ?_
    refine ze_int ?_
    refine IxW.tuple (ds := [.str r.name, .int r.least, optD r.most]) rfl ?_
    exact ⟨rfl, rfl⟩
  refine ⟨_, rfl, ?_⟩
  rw [show (h.map fun r => PyData.str r.name) = (sorts h).map .str by unfold sorts; rw [List.map_map]; rfl]
  refine zk_listM bn.list ?_
  refine ze_name 3 rfl ?_
  refine ⟨_, .inr (.inl rfl), ?_⟩
  rw [lst_zip hcl]
  refine zs_cons ?_
  refine zs_for PassesOwn.never rfl ?_
  refine zi_seq ?_
  refine ze_name 1 rfl ?_
  refine SeqW.tuple ?_
  refine ⟨fun i Γ1 M1 => ∃ o1 o2 o3 : Option W, Γ1 = [some (.d (houseD h)), some (.d (scriptD ds)), some (.d (.int num)), some (.d (.tuple (c.map .int))), some (.d (.list ((sorts h).map .str))), some (.m M.length), o1, o2, o3, none] ∧ M1 = M ++ [.lst (lstA (runA num (List.zip (sorts h) c) (ds.take i)))], ⟨?_, fun i d Γ1 M1 hd hI => ?_, fun Γ1 M1 hI => ?_⟩⟩
  · exact ⟨none, none, none, rfl, rfl⟩
  · obtain ⟨o1, o2, o3, rfl, rfl⟩ := hI
    obtain ⟨dd, hd1, rfl⟩ := get_map hd
    have hind := hin dd (List.mem_of_getElem? hd1)
    have hks : (runA num (List.zip (sorts h) c) (ds.take i)).map (·.1) = sorts h := by rw [runA_keys, hk]
    have nx := fun cs (e : cs = stepA num (runA num (List.zip (sorts h) c) (ds.take i)) dd) => (show cs = runA num (List.zip (sorts h) c) (ds.take (i + 1)) by rw [e, take_next hd1, runA_snoc])
    generalize runA num (List.zip (sorts h) c) (ds.take i) = cs at hks nx ⊢
    have ndk : (cs.map (·.1)).Nodup := by rw [hks]; exact ok.nd
    rcases dd with ⟨a, n⟩ | ⟨a, k⟩ | ⟨a, k⟩ | ⟨a, k, b⟩ | ⟨a, b⟩
    · obtain ⟨ia, ha1, ha2⟩ := idx_of hind
      have ka : (cs.map (·.1))[ia]? = some a := by rw [hks]; exact ha1
      refine zg_name 6 (hN := nd) ?_
      refine zs_cons ?_
      refine zs_par 7 8 rfl (hN := nd) ?_
      refine zm_index ?_
      refine ze_name 4 rfl ?_
      refine ⟨_, rfl, ?_⟩
      refine ze_ix hr ?_
      refine ze_name 6 rfl ?_
      refine ze_int ?_
      refine IxW.tuple (ds := [.str "come", .str a, .int n]) rfl ?_
      refine ⟨.str a, ia, .str a, rfl, rfl, flat_names _, by rw [List.getElem?_map, ha1]; rfl, str_same _, before_of ha2, ?_⟩
      refine ze_ix hr ?_
      refine ze_name 6 rfl ?_
      refine ze_int ?_
      refine IxW.tuple (ds := [.str "come", .str a, .int n]) rfl ?_
      refine zs_cons ?_
      refine zs_if ?_
      refine zt_cmp ?_
      refine zc_eqS ?_
      refine ze_name 8 rfl ?_
      refine ze_str ?_
      refine ⟨_, _, rfl, rfl, ?_⟩
      refine ⟨_, rfl, ?_⟩
      refine ifd (fun _ => ?_) (fun hc => absurd rfl hc)
      refine zs_cons ?_
      refine zs_aug hr ip_add ?_
      refine ze_name 5 rfl ?_
      refine ze_name 7 rfl ?_
      refine .inl ⟨M.length, _, _, _, rfl, rfl, at_end M _, at_lst ndk ka, Int.natCast_nonneg _, ?_⟩
      refine zk_int bn.int ?_
      refine ze_cmp ?_
      refine zc_le ?_
      refine ze_name 2 rfl ?_
      refine ze_ix hr ?_
      refine ze_name 6 rfl ?_
      refine ze_int ?_
      refine IxW.tuple (ds := [.str "come", .str a, .int n]) rfl ?_
      refine ⟨_, _, rfl, rfl, ?_⟩
      refine .inr ⟨_, rfl, ?_⟩
      refine ⟨_, _, rfl, rfl, .inl ⟨M.length, _, _, _, rfl, rfl, at_end M _, ix_lst ka, ?_⟩⟩
      rw [set_end, set_lst _ ndk ka]
      refine zs_nil ?_
      refine zs_nil ?_
      exact ⟨_, _, _, rfl, congrArg (fun x => M ++ [MO.lst (lstA x)]) (nx _ rfl)⟩
    · obtain ⟨ia, ha1, ha2⟩ := idx_of hind
      have ka : (cs.map (·.1))[ia]? = some a := by rw [hks]; exact ha1
      refine zg_name 6 (hN := nd) ?_
      refine zs_cons ?_
      refine zs_par 7 8 rfl (hN := nd) ?_
      refine zm_index ?_
      refine ze_name 4 rfl ?_
      refine ⟨_, rfl, ?_⟩
      refine ze_ix hr ?_
      refine ze_name 6 rfl ?_
      refine ze_int ?_
      refine IxW.tuple (ds := [.str "go", .str a, .int k]) rfl ?_
      refine ⟨.str a, ia, .str a, rfl, rfl, flat_names _, by rw [List.getElem?_map, ha1]; rfl, str_same _, before_of ha2, ?_⟩
      refine ze_ix hr ?_
      refine ze_name 6 rfl ?_
      refine ze_int ?_
      refine IxW.tuple (ds := [.str "go", .str a, .int k]) rfl ?_
      refine zs_cons ?_
      refine zs_if ?_
      refine zt_cmp ?_
      refine zc_eqS ?_
      refine ze_name 8 rfl ?_
      refine ze_str ?_
      refine ⟨_, _, rfl, rfl, ?_⟩
      refine ⟨_, rfl, ?_⟩
      refine ifd (fun hc => absurd hc (by decide)) (fun _ => ?_)
      refine zs_cons ?_
      refine zs_if ?_
      refine zt_cmp ?_
      refine zc_eqS ?_
      refine ze_name 8 rfl ?_
      refine ze_str ?_
      refine ⟨_, _, rfl, rfl, ?_⟩
      refine ⟨_, rfl, ?_⟩
      refine ifd (fun hc => absurd hc (by decide)) (fun _ => ?_)
      refine zs_cons ?_
      refine zs_if ?_
      refine zt_cmp ?_
      refine zc_eqS ?_
      refine ze_name 8 rfl ?_
      refine ze_str ?_
      refine ⟨_, _, rfl, rfl, ?_⟩
      refine ⟨_, rfl, ?_⟩
      refine ifd (fun hc => absurd hc (by decide)) (fun _ => ?_)
      refine zs_cons ?_
      refine zs_if ?_
      refine zt_cmp ?_
      refine zc_ge ?_
      refine ze_ix hr ?_
      refine ze_name 5 rfl ?_
      refine ze_name 7 rfl ?_
      refine IxW.cell (at_end M _) (at_lst ndk ka) ?_
      refine ze_ix hr ?_
      refine ze_name 6 rfl ?_
      refine ze_int ?_
      refine IxW.tuple (ds := [.str "go", .str a, .int k]) rfl ?_
      refine ⟨_, _, rfl, rfl, ?_⟩
      refine ⟨_, rfl, ?_⟩
      refine ifd (fun hc => ?_) (fun hc => ?_)
      · refine zs_cons ?_
        refine zs_aug hr ip_sub ?_
        refine ze_name 5 rfl ?_
        refine ze_name 7 rfl ?_
        refine .inl ⟨M.length, _, _, _, rfl, rfl, at_end M _, at_lst ndk ka, Int.natCast_nonneg _, ?_⟩
        refine ze_int ?_
        refine ⟨_, _, rfl, rfl, .inl ⟨M.length, _, _, _, rfl, rfl, at_end M _, ix_lst ka, ?_⟩⟩
        rw [set_end, set_lst _ ndk ka]
        refine zs_cons ?_
        refine zs_if ?_
        refine zt_cmp ?_
        refine zc_eqS ?_
        refine ze_name 8 rfl ?_
        refine ze_str ?_
        refine ⟨_, _, rfl, rfl, ?_⟩
        refine ⟨_, rfl, ?_⟩
        refine ifd (fun hc => absurd hc (by decide)) (fun _ => ?_)
        refine zs_nil ?_
        refine zs_nil ?_
        refine zs_nil ?_
        refine zs_nil ?_
        refine zs_nil ?_
        refine zs_nil ?_
        first | exact ⟨_, _, _, rfl, congrArg (fun x => M ++ [MO.lst (lstA x)]) (nx _ (if_pos hc).symm)⟩ | exact ⟨_, _, _, rfl, congrArg (fun x => M ++ [MO.lst (lstA x)]) (nx _ (if_neg hc).symm)⟩
      · refine zs_nil ?_
        refine zs_nil ?_
        refine zs_nil ?_
        refine zs_nil ?_
        refine zs_nil ?_
        first | exact ⟨_, _, _, rfl, congrArg (fun x => M ++ [MO.lst (lstA x)]) (nx _ (if_pos hc).symm)⟩ | exact ⟨_, _, _, rfl, congrArg (fun x => M ++ [MO.lst (lstA x)]) (nx _ (if_neg hc).symm)⟩
    · obtain ⟨ia, ha1, ha2⟩ := idx_of hind
      have ka : (cs.map (·.1))[ia]? = some a := by rw [hks]; exact ha1
      refine zg_name 6 (hN := nd) ?_
      refine zs_cons ?_
      refine zs_par 7 8 rfl (hN := nd) ?_
      refine zm_index ?_
      refine ze_name 4 rfl ?_
      refine ⟨_, rfl, ?_⟩
      refine ze_ix hr ?_
      refine ze_name 6 rfl ?_
      refine ze_int ?_
      refine IxW.tuple (ds := [.str "keep", .str a, .int k]) rfl ?_
      refine ⟨.str a, ia, .str a, rfl, rfl, flat_names _, by rw [List.getElem?_map, ha1]; rfl, str_same _, before_of ha2, ?_⟩
      refine ze_ix hr ?_
      refine ze_name 6 rfl ?_
      refine ze_int ?_
      refine IxW.tuple (ds := [.str "keep", .str a, .int k]) rfl ?_
      refine zs_cons ?_
      refine zs_if ?_
      refine zt_cmp ?_
      refine zc_eqS ?_
      refine ze_name 8 rfl ?_
      refine ze_str ?_
      refine ⟨_, _, rfl, rfl, ?_⟩
      refine ⟨_, rfl, ?_⟩
      refine ifd (fun hc => absurd hc (by decide)) (fun _ => ?_)
      refine zs_cons ?_
      refine zs_if ?_
      refine zt_cmp ?_
      refine zc_eqS ?_
      refine ze_name 8 rfl ?_
      refine ze_str ?_
      refine ⟨_, _, rfl, rfl, ?_⟩
      refine ⟨_, rfl, ?_⟩
      refine ifd (fun _ => ?_) (fun hc => absurd rfl hc)
      refine zs_cons ?_
      refine zs_asg ?_
      refine zk_min bn.min rfl ?_
      refine ze_ix hr ?_
      refine ze_name 5 rfl ?_
      refine ze_name 7 rfl ?_
      refine IxW.cell (at_end M _) (at_lst ndk ka) ?_
      refine ze_ix hr ?_
      refine ze_name 6 rfl ?_
      refine ze_int ?_
      refine IxW.tuple (ds := [.str "keep", .str a, .int k]) rfl ?_
      refine ⟨_, _, rfl, rfl, ?_⟩
      refine zg_sub hr ?_
      refine ze_name 5 rfl ?_
      refine ze_name 7 rfl ?_
      refine .inl ⟨M.length, _, _, _, rfl, rfl, at_end M _, ix_lst ka, ?_⟩
      rw [set_end, set_lst _ ndk ka]
      refine zs_nil ?_
      refine zs_nil ?_
      refine zs_nil ?_
      exact ⟨_, _, _, rfl, congrArg (fun x => M ++ [MO.lst (lstA x)]) (nx _ rfl)⟩
    · obtain ⟨ia, ha1, ha2⟩ := idx_of hind.1
      obtain ⟨ib, hb1, hb2⟩ := idx_of hind.2.1
      have ka : (cs.map (·.1))[ia]? = some a := by rw [hks]; exact ha1
      have kb : (cs.map (·.1))[ib]? = some b := by rw [hks]; exact hb1
      refine zg_name 6 (hN := nd) ?_
      refine zs_cons ?_
      refine zs_par 7 8 rfl (hN := nd) ?_
      refine zm_index ?_
      refine ze_name 4 rfl ?_
      refine ⟨_, rfl, ?_⟩
      refine ze_ix hr ?_
      refine ze_name 6 rfl ?_
      refine ze_int ?_
      refine IxW.tuple (ds := [.str "move", .str a, .int k, .str b]) rfl ?_
      refine ⟨.str a, ia, .str a, rfl, rfl, flat_names _, by rw [List.getElem?_map, ha1]; rfl, str_same _, before_of ha2, ?_⟩
      refine ze_ix hr ?_
      refine ze_name 6 rfl ?_
      refine ze_int ?_
      refine IxW.tuple (ds := [.str "move", .str a, .int k, .str b]) rfl ?_
      refine zs_cons ?_
      refine zs_if ?_
      refine zt_cmp ?_
      refine zc_eqS ?_
      refine ze_name 8 rfl ?_
      refine ze_str ?_
      refine ⟨_, _, rfl, rfl, ?_⟩
      refine ⟨_, rfl, ?_⟩
      refine ifd (fun hc => absurd hc (by decide)) (fun _ => ?_)
      refine zs_cons ?_
      refine zs_if ?_
      refine zt_cmp ?_
      refine zc_eqS ?_
      refine ze_name 8 rfl ?_
      refine ze_str ?_
      refine ⟨_, _, rfl, rfl, ?_⟩
      refine ⟨_, rfl, ?_⟩
      refine ifd (fun hc => absurd hc (by decide)) (fun _ => ?_)
      refine zs_cons ?_
      refine zs_if ?_
      refine zt_cmp ?_
      refine zc_eqS ?_
      refine ze_name 8 rfl ?_
      refine ze_str ?_
      refine ⟨_, _, rfl, rfl, ?_⟩
      refine ⟨_, rfl, ?_⟩
      refine ifd (fun hc => absurd hc (by decide)) (fun _ => ?_)
      refine zs_cons ?_
      refine zs_if ?_
      refine zt_cmp ?_
      refine zc_ge ?_
      refine ze_ix hr ?_
      refine ze_name 5 rfl ?_
      refine ze_name 7 rfl ?_
      refine IxW.cell (at_end M _) (at_lst ndk ka) ?_
      refine ze_ix hr ?_
      refine ze_name 6 rfl ?_
      refine ze_int ?_
      refine IxW.tuple (ds := [.str "move", .str a, .int k, .str b]) rfl ?_
      refine ⟨_, _, rfl, rfl, ?_⟩
      refine ⟨_, rfl, ?_⟩
      refine ifd (fun hc => ?_) (fun hc => ?_)
      · refine zs_cons ?_
        refine zs_aug hr ip_sub ?_
        refine ze_name 5 rfl ?_
        refine ze_name 7 rfl ?_
        refine .inl ⟨M.length, _, _, _, rfl, rfl, at_end M _, at_lst ndk ka, Int.natCast_nonneg _, ?_⟩
        refine ze_int ?_
        refine ⟨_, _, rfl, rfl, .inl ⟨M.length, _, _, _, rfl, rfl, at_end M _, ix_lst ka, ?_⟩⟩
        rw [set_end, set_lst _ ndk ka]
        refine zs_cons ?_
        refine zs_if ?_
        refine zt_cmp ?_
        refine zc_eqS ?_
        refine ze_name 8 rfl ?_
        refine ze_str ?_
        refine ⟨_, _, rfl, rfl, ?_⟩
        refine ⟨_, rfl, ?_⟩
        refine ifd (fun _ => ?_) (fun hc => absurd rfl hc)
        refine zs_cons ?_
        refine zs_aug hr ip_add ?_
        refine ze_name 5 rfl ?_
        refine zm_index ?_
        refine ze_name 4 rfl ?_
        refine ⟨_, rfl, ?_⟩
        refine ze_ix hr ?_
        refine ze_name 6 rfl ?_
        refine ze_int ?_
        refine IxW.tuple (ds := [.str "move", .str a, .int k, .str b]) rfl ?_
        refine ⟨.str b, ib, .str b, rfl, rfl, flat_names _, by rw [List.getElem?_map, hb1]; rfl, str_same _, before_of hb2, ?_⟩
        have kb2 : ((setA cs a (getA cs a - 1)).map (·.1))[ib]? = some b := by rw [setA_keys]; exact kb
        have nd2 : ((setA cs a (getA cs a - 1)).map (·.1)).Nodup := by rw [setA_keys]; exact ndk
        refine .inl ⟨M.length, _, _, _, rfl, rfl, at_end M _, at_lst nd2 kb2, Int.natCast_nonneg _, ?_⟩
        refine ze_int ?_
        refine ⟨_, _, rfl, rfl, .inl ⟨M.length, _, _, _, rfl, rfl, at_end M _, ix_lst kb2, ?_⟩⟩
        rw [set_end, set_lst _ nd2 kb2]
        refine zs_nil ?_
        refine zs_nil ?_
        refine zs_nil ?_
        refine zs_nil ?_
        refine zs_nil ?_
        refine zs_nil ?_
        first | exact ⟨_, _, _, rfl, congrArg (fun x => M ++ [MO.lst (lstA x)]) (nx _ (if_pos hc).symm)⟩ | exact ⟨_, _, _, rfl, congrArg (fun x => M ++ [MO.lst (lstA x)]) (nx _ (if_neg hc).symm)⟩
      · refine zs_nil ?_
        refine zs_nil ?_
        refine zs_nil ?_
        refine zs_nil ?_
        refine zs_nil ?_
        first | exact ⟨_, _, _, rfl, congrArg (fun x => M ++ [MO.lst (lstA x)]) (nx _ (if_pos hc).symm)⟩ | exact ⟨_, _, _, rfl, congrArg (fun x => M ++ [MO.lst (lstA x)]) (nx _ (if_neg hc).symm)⟩
    · obtain ⟨ia, ha1, ha2⟩ := idx_of hind.1
      obtain ⟨ib, hb1, hb2⟩ := idx_of hind.2.1
      have ka : (cs.map (·.1))[ia]? = some a := by rw [hks]; exact ha1
      have kb : (cs.map (·.1))[ib]? = some b := by rw [hks]; exact hb1
      refine zg_name 6 (hN := nd) ?_
      refine zs_cons ?_
      refine zs_par 7 8 rfl (hN := nd) ?_
      refine zm_index ?_
      refine ze_name 4 rfl ?_
      refine ⟨_, rfl, ?_⟩
      refine ze_ix hr ?_
      refine ze_name 6 rfl ?_
      refine ze_int ?_
      refine IxW.tuple (ds := [.str "merge", .str a, .str b]) rfl ?_
      refine ⟨.str a, ia, .str a, rfl, rfl, flat_names _, by rw [List.getElem?_map, ha1]; rfl, str_same _, before_of ha2, ?_⟩
      refine ze_ix hr ?_
      refine ze_name 6 rfl ?_
      refine ze_int ?_
      refine IxW.tuple (ds := [.str "merge", .str a, .str b]) rfl ?_
      refine zs_cons ?_
      refine zs_if ?_
      refine zt_cmp ?_
      refine zc_eqS ?_
      refine ze_name 8 rfl ?_
      refine ze_str ?_
      refine ⟨_, _, rfl, rfl, ?_⟩
      refine ⟨_, rfl, ?_⟩
      refine ifd (fun hc => absurd hc (by decide)) (fun _ => ?_)
      refine zs_cons ?_
      refine zs_if ?_
      refine zt_cmp ?_
      refine zc_eqS ?_
      refine ze_name 8 rfl ?_
      refine ze_str ?_
      refine ⟨_, _, rfl, rfl, ?_⟩
      refine ⟨_, rfl, ?_⟩
      refine ifd (fun hc => absurd hc (by decide)) (fun _ => ?_)
      refine zs_cons ?_
      refine zs_if ?_
      refine zt_cmp ?_
      refine zc_eqS ?_
      refine ze_name 8 rfl ?_
      refine ze_str ?_
      refine ⟨_, _, rfl, rfl, ?_⟩
      refine ⟨_, rfl, ?_⟩
      refine ifd (fun _ => ?_) (fun hc => absurd rfl hc)
      refine zs_cons ?_
      refine zs_aug hr ip_add ?_
      refine ze_name 5 rfl ?_
      refine zm_index ?_
      refine ze_name 4 rfl ?_
      refine ⟨_, rfl, ?_⟩
      refine ze_ix hr ?_
      refine ze_name 6 rfl ?_
      refine ze_int ?_
      refine IxW.tuple (ds := [.str "merge", .str a, .str b]) rfl ?_
      refine ⟨.str b, ib, .str b, rfl, rfl, flat_names _, by rw [List.getElem?_map, hb1]; rfl, str_same _, before_of hb2, ?_⟩
      refine .inl ⟨M.length, _, _, _, rfl, rfl, at_end M _, at_lst ndk kb, Int.natCast_nonneg _, ?_⟩
      refine ze_ix hr ?_
      refine ze_name 5 rfl ?_
      refine ze_name 7 rfl ?_
      refine IxW.cell (at_end M _) (at_lst ndk ka) ?_
      refine ⟨_, _, rfl, rfl, .inl ⟨M.length, _, _, _, rfl, rfl, at_end M _, ix_lst kb, ?_⟩⟩
      rw [set_end, set_lst _ ndk kb]
      refine zs_cons ?_
      refine zs_asg ?_
      refine ze_int ?_
      refine zg_sub hr ?_
      refine ze_name 5 rfl ?_
      refine ze_name 7 rfl ?_
      have ka2 : ((setA cs b (getA cs b + getA cs a)).map (·.1))[ia]? = some a := by rw [setA_keys]; exact ka
      have nd2 : ((setA cs b (getA cs b + getA cs a)).map (·.1)).Nodup := by rw [setA_keys]; exact ndk
      refine .inl ⟨M.length, _, _, _, rfl, rfl, at_end M _, ix_lst ka2, ?_⟩
      rw [set_end, set_lst _ nd2 ka2]
      refine zs_nil ?_
      refine zs_nil ?_
      refine zs_nil ?_
      refine zs_nil ?_
      exact ⟨_, _, _, rfl, congrArg (fun x => M ++ [MO.lst (lstA x)]) (nx _ rfl)⟩
  · obtain ⟨o1, o2, o3, rfl, rfl⟩ := hI
    rw [List.length_map, List.take_length]
    refine zs_cons ?_
    refine zs_ret ?_
    refine zk_tuple bn.tuple ?_
    refine ze_name 5 rfl ?_
    refine ⟨(runA num (List.zip (sorts h) c) ds).map (fun p => .int p.2), .inr (.inr ⟨M.length, rfl, (at_end M _).trans (by unfold lstA; rw [List.map_map]; rfl)⟩), ?_⟩
    exact fin_dat (A := M) (Nat.le_refl _) cl hΦ
end K84

namespace K84
open PySem PySem.Spec PyProof.Rows L2 Z
theorem nd_p_do_deed : (n_p_do_deed : List Str).Nodup := by decide +kernel
theorem f_p_do_deed {T : Top} (bn : Bn T) (d : DefAt T "do_deed" s_p_do_deed) : Fz T 1 "do_deed" ["table", "deed"] doS := by
  refine fz_of d sc_p_do_deed (fun _ _ _ _ _ _ us hl => match us, hl with | [_, _], _ => rfl) ?_
  intro f cdv A outer s H E ws M Φ hr _ hS
  have nd := nd_p_do_deed
  obtain ⟨A, t, f, j, d, rfl, T, hin, hl, htl, _, kp, kg, km, hΦ⟩ := hS
  rcases d with ⟨a, n⟩ | ⟨a, k⟩ | ⟨a, k⟩ | ⟨a, k, b⟩ | ⟨a, b⟩
  · have ha : a ∈ t.map (·.1) := hin
    have la := getT_short ha hl
    refine zs_cons ?_
    refine zs_set 2 (hN := nd) ?_
    refine ze_ix hr ?_
    refine ze_name 0 rfl ?_
    refine ze_ix hr ?_
    refine ze_name 1 rfl ?_
    refine ze_int ?_
    refine IxW.tuple (ds := [.str "come", .str a, .int n]) rfl ?_
    refine IxW.get (q := .inr a) (.inr ⟨j, _, rfl, T.dic, (look_encF f ha).symm⟩) ?_
    refine zs_cons ?_
    refine zs_if ?_
    refine zt_cmp ?_
    refine zc_eqS ?_
    refine ze_ix hr ?_
    refine ze_name 1 rfl ?_
    refine ze_int ?_
    refine IxW.tuple (ds := [.str "come", .str a, .int n]) rfl ?_
    refine ze_str ?_
    refine ⟨_, _, rfl, rfl, ?_⟩
    refine ⟨_, rfl, ?_⟩
    refine ifd (fun _ => ?_) (fun hc => absurd rfl hc)
    refine zs_cons ?_
    refine zs_asg ?_
    refine zk_sortedM bn.sorted ?_
    refine ze_lst ?_
    refine za_star ?_
    refine ze_name 2 rfl ?_
    refine ⟨(getT t a).map .int, .inr (.inr ⟨f a, rfl, (T.cell a ha).2⟩), ?_⟩
    refine za_cons ?_
    refine ze_ix hr ?_
    refine ze_name 1 rfl ?_
    refine ze_int ?_
    refine IxW.tuple (ds := [.str "come", .str a, .int n]) rfl ?_
    refine za_nil ?_
    refine ⟨(getT t a ++ [n]).map .int, by rw [List.map_append, List.map_append]; rfl, by rw [List.length_map, List.length_append]; unfold sizeLine; simp; omega, ?_⟩
    refine ⟨getT t a ++ [n], .inl rfl, fun _ z => (by cases z), ?_⟩
    refine zg_sub hr ?_
    refine ze_name 0 rfl ?_
    refine ze_ix hr ?_
    refine ze_name 1 rfl ?_
    refine ze_int ?_
    refine IxW.tuple (ds := [.str "come", .str a, .int n]) rfl ?_
    refine .inr ⟨j, _, .inr a, rfl, rfl, (T.more _).dic, by rw [encF_len, List.length_map]; unfold sizeLine; omega, ?_⟩
    refine zs_nil ?_
    refine zs_nil ?_
    exact hΦ _ _ (T.put ha (sortI (getT t a ++ [n])))
  · have ha : a ∈ t.map (·.1) := hin
    have la := getT_short ha hl
    have k1 := kg a k rfl
    refine zs_cons ?_
    refine zs_set 2 (hN := nd) ?_
    refine ze_ix hr ?_
    refine ze_name 0 rfl ?_
    refine ze_ix hr ?_
    refine ze_name 1 rfl ?_
    refine ze_int ?_
    refine IxW.tuple (ds := [.str "go", .str a, .int k]) rfl ?_
    refine IxW.get (q := .inr a) (.inr ⟨j, _, rfl, T.dic, (look_encF f ha).symm⟩) ?_
    refine zs_cons ?_
    refine zs_if ?_
    refine zt_cmp ?_
    refine zc_eqS ?_
    refine ze_ix hr ?_
    refine ze_name 1 rfl ?_
    refine ze_int ?_
    refine IxW.tuple (ds := [.str "go", .str a, .int k]) rfl ?_
    refine ze_str ?_
    refine ⟨_, _, rfl, rfl, ?_⟩
    refine ⟨_, rfl, ?_⟩
    refine ifd (fun hc => absurd hc (by decide)) (fun _ => ?_)
    refine zs_cons ?_
    refine zs_if ?_
    refine zt_cmp ?_
    refine zc_eqS ?_
    refine ze_ix hr ?_
    refine ze_name 1 rfl ?_
    refine ze_int ?_
    refine IxW.tuple (ds := [.str "go", .str a, .int k]) rfl ?_
    refine ze_str ?_
    refine ⟨_, _, rfl, rfl, ?_⟩
    refine ⟨_, rfl, ?_⟩
    refine ifd (fun hc => absurd hc (by decide)) (fun _ => ?_)
    refine zs_cons ?_
    refine zs_if ?_
    refine zt_cmp ?_
    refine zc_eqS ?_
    refine ze_ix hr ?_
    refine ze_name 1 rfl ?_
    refine ze_int ?_
    refine IxW.tuple (ds := [.str "go", .str a, .int k]) rfl ?_
    refine ze_str ?_
    refine ⟨_, _, rfl, rfl, ?_⟩
    refine ⟨_, rfl, ?_⟩
    refine ifd (fun hc => absurd hc (by decide)) (fun _ => ?_)
    refine zs_cons ?_
    refine zs_if ?_
    refine zt_cmp ?_
    refine zc_ge ?_
    refine zk_len bn.len ?_
    refine ze_name 2 rfl ?_
    refine ⟨_, .inr (.inl ⟨f a, _, rfl, (T.cell a ha).2, rfl⟩), ?_⟩
    refine ze_ix hr ?_
    refine ze_name 1 rfl ?_
    refine ze_int ?_
    refine IxW.tuple (ds := [.str "go", .str a, .int k]) rfl ?_
    refine ⟨_, _, rfl, rfl, ?_⟩
    refine ⟨_, rfl, ?_⟩
    rw [rowsW_len]
    refine ifd (fun hc => ?_) (fun hc => ?_)
    · refine zs_cons ?_
      refine zs_set 3 (hN := nd) ?_
      refine zm_popAt ?_
      refine ze_name 2 rfl ?_
      refine ⟨.inr ⟨f a, _, rfl, (T.cell a ha).2⟩, ?_⟩
      refine ze_sub ?_
      refine zk_len bn.len ?_
      refine ze_name 2 rfl ?_
      refine ⟨_, .inr (.inl ⟨f a, _, rfl, (T.cell a ha).2, rfl⟩), ?_⟩
      refine ze_ix hr ?_
      refine ze_name 1 rfl ?_
      refine ze_int ?_
      refine IxW.tuple (ds := [.str "go", .str a, .int k]) rfl ?_
      refine ⟨_, _, rfl, rfl, ?_⟩
      rw [rowsW_len]
      refine ⟨f a, _, ((getT t a).length : Int) - k, (((getT t a).length : Int) - k).toNat, _, rfl, rfl, (T.cell a ha).2, by omega, by omega, by rw [rowsW_len]; exact ix_of (by omega) (by omega), rowsW_get (by omega), ?_⟩
      rw [rowsW_erase]
      have T1 := T.pop ha ((getT t a).eraseIdx (((getT t a).length : Int) - k).toNat)
      refine zs_cons ?_
      refine zs_if ?_
      refine zt_cmp ?_
      refine zc_eqS ?_
      refine ze_ix hr ?_
      refine ze_name 1 rfl ?_
      refine ze_int ?_
      refine IxW.tuple (ds := [.str "go", .str a, .int k]) rfl ?_
      refine ze_str ?_
      refine ⟨_, _, rfl, rfl, ?_⟩
      refine ⟨_, rfl, ?_⟩
      refine ifd (fun hc => absurd hc (by decide)) (fun _ => ?_)
      refine zs_nil ?_
      refine zs_nil ?_
      refine zs_nil ?_
      refine zs_nil ?_
      refine zs_nil ?_
      refine zs_nil ?_
      first | (have e : stepT t (.go a k) = _ := if_pos hc; exact hΦ _ _ (e ▸ T1)) | (have e : stepT t (.go a k) = t := if_neg hc; exact hΦ _ _ (e ▸ T))
    · refine zs_nil ?_
      refine zs_nil ?_
      refine zs_nil ?_
      refine zs_nil ?_
      refine zs_nil ?_
      first | (have e : stepT t (.go a k) = _ := if_pos hc; exact hΦ _ _ (e ▸ T1)) | (have e : stepT t (.go a k) = t := if_neg hc; exact hΦ _ _ (e ▸ T))
  · have ha : a ∈ t.map (·.1) := hin
    have la := getT_short ha hl
    have k0 := kp a k rfl
    refine zs_cons ?_
    refine zs_set 2 (hN := nd) ?_
    refine ze_ix hr ?_
    refine ze_name 0 rfl ?_
    refine ze_ix hr ?_
    refine ze_name 1 rfl ?_
    refine ze_int ?_
    refine IxW.tuple (ds := [.str "keep", .str a, .int k]) rfl ?_
    refine IxW.get (q := .inr a) (.inr ⟨j, _, rfl, T.dic, (look_encF f ha).symm⟩) ?_
    refine zs_cons ?_
    refine zs_if ?_
    refine zt_cmp ?_
    refine zc_eqS ?_
    refine ze_ix hr ?_
    refine ze_name 1 rfl ?_
    refine ze_int ?_
    refine IxW.tuple (ds := [.str "keep", .str a, .int k]) rfl ?_
    refine ze_str ?_
    refine ⟨_, _, rfl, rfl, ?_⟩
    refine ⟨_, rfl, ?_⟩
    refine ifd (fun hc => absurd hc (by decide)) (fun _ => ?_)
    refine zs_cons ?_
    refine zs_if ?_
    refine zt_cmp ?_
    refine zc_eqS ?_
    refine ze_ix hr ?_
    refine ze_name 1 rfl ?_
    refine ze_int ?_
    refine IxW.tuple (ds := [.str "keep", .str a, .int k]) rfl ?_
    refine ze_str ?_
    refine ⟨_, _, rfl, rfl, ?_⟩
    refine ⟨_, rfl, ?_⟩
    refine ifd (fun hc => absurd hc (by decide)) (fun _ => ?_)
    refine zs_cons ?_
    refine zs_if ?_
    refine zt_cmp ?_
    refine zc_eqS ?_
    refine ze_ix hr ?_
    refine ze_name 1 rfl ?_
    refine ze_int ?_
    refine IxW.tuple (ds := [.str "keep", .str a, .int k]) rfl ?_
    refine ze_str ?_
    refine ⟨_, _, rfl, rfl, ?_⟩
    refine ⟨_, rfl, ?_⟩
    refine ifd (fun _ => ?_) (fun hc => absurd rfl hc)
    refine zs_cons ?_
    refine zs_asg ?_
    refine ze_slM ?_
    refine ze_name 2 rfl ?_
    refine zp_some ?_
    refine zk_max bn.max rfl ?_
    refine ze_int ?_
    refine ze_sub ?_
    refine zk_len bn.len ?_
    refine ze_name 2 rfl ?_
    refine ⟨_, .inr (.inl ⟨f a, _, rfl, (T.cell a ha).2, rfl⟩), ?_⟩
    refine ze_ix hr ?_
    refine ze_name 1 rfl ?_
    refine ze_int ?_
    refine IxW.tuple (ds := [.str "keep", .str a, .int k]) rfl ?_
    refine ⟨_, _, rfl, rfl, ?_⟩
    refine ⟨_, _, rfl, rfl, ?_⟩
    refine ⟨_, rfl, ?_⟩
    refine zp_none ?_
    refine ⟨(getT t a).map .int, .inr ⟨f a, rfl, (T.cell a ha).2⟩, ?_⟩
    rw [rowsW_len, cut_drop _ (by split <;> omega), show (if ((getT t a).length : Int) - k > 0 then ((getT t a).length : Int) - k else 0).toNat = (((getT t a).length : Int) - k).toNat by split <;> omega, ← List.map_drop]
    refine zg_sub hr ?_
    refine ze_name 0 rfl ?_
    refine ze_ix hr ?_
    refine ze_name 1 rfl ?_
    refine ze_int ?_
    refine IxW.tuple (ds := [.str "keep", .str a, .int k]) rfl ?_
    refine .inr ⟨j, _, .inr a, rfl, rfl, (T.more _).dic, by rw [encF_len, List.length_map]; unfold sizeLine; omega, ?_⟩
    refine zs_nil ?_
    refine zs_nil ?_
    refine zs_nil ?_
    refine zs_nil ?_
    exact hΦ _ _ (T.put ha ((getT t a).drop (((getT t a).length : Int) - k).toNat))
  · obtain ⟨ha, hb, hab⟩ := hin
    have la := getT_short ha hl
    have lb := getT_short hb hl
    have k1 := km a k b rfl
    refine zs_cons ?_
    refine zs_set 2 (hN := nd) ?_
    refine ze_ix hr ?_
    refine ze_name 0 rfl ?_
    refine ze_ix hr ?_
    refine ze_name 1 rfl ?_
    refine ze_int ?_
    refine IxW.tuple (ds := [.str "move", .str a, .int k, .str b]) rfl ?_
    refine IxW.get (q := .inr a) (.inr ⟨j, _, rfl, T.dic, (look_encF f ha).symm⟩) ?_
    refine zs_cons ?_
    refine zs_if ?_
    refine zt_cmp ?_
    refine zc_eqS ?_
    refine ze_ix hr ?_
    refine ze_name 1 rfl ?_
    refine ze_int ?_
    refine IxW.tuple (ds := [.str "move", .str a, .int k, .str b]) rfl ?_
    refine ze_str ?_
    refine ⟨_, _, rfl, rfl, ?_⟩
    refine ⟨_, rfl, ?_⟩
    refine ifd (fun hc => absurd hc (by decide)) (fun _ => ?_)
    refine zs_cons ?_
    refine zs_if ?_
    refine zt_cmp ?_
    refine zc_eqS ?_
    refine ze_ix hr ?_
    refine ze_name 1 rfl ?_
    refine ze_int ?_
    refine IxW.tuple (ds := [.str "move", .str a, .int k, .str b]) rfl ?_
    refine ze_str ?_
    refine ⟨_, _, rfl, rfl, ?_⟩
    refine ⟨_, rfl, ?_⟩
    refine ifd (fun hc => absurd hc (by decide)) (fun _ => ?_)
    refine zs_cons ?_
    refine zs_if ?_
    refine zt_cmp ?_
    refine zc_eqS ?_
    refine ze_ix hr ?_
    refine ze_name 1 rfl ?_
    refine ze_int ?_
    refine IxW.tuple (ds := [.str "move", .str a, .int k, .str b]) rfl ?_
    refine ze_str ?_
    refine ⟨_, _, rfl, rfl, ?_⟩
    refine ⟨_, rfl, ?_⟩
    refine ifd (fun hc => absurd hc (by decide)) (fun _ => ?_)
    refine zs_cons ?_
    refine zs_if ?_
    refine zt_cmp ?_
    refine zc_ge ?_
    refine zk_len bn.len ?_
    refine ze_name 2 rfl ?_
    refine ⟨_, .inr (.inl ⟨f a, _, rfl, (T.cell a ha).2, rfl⟩), ?_⟩
    refine ze_ix hr ?_
    refine ze_name 1 rfl ?_
    refine ze_int ?_
    refine IxW.tuple (ds := [.str "move", .str a, .int k, .str b]) rfl ?_
    refine ⟨_, _, rfl, rfl, ?_⟩
    refine ⟨_, rfl, ?_⟩
    rw [rowsW_len]
    refine ifd (fun hc => ?_) (fun hc => ?_)
    · refine zs_cons ?_
      refine zs_set 3 (hN := nd) ?_
      refine zm_popAt ?_
      refine ze_name 2 rfl ?_
      refine ⟨.inr ⟨f a, _, rfl, (T.cell a ha).2⟩, ?_⟩
      refine ze_sub ?_
      refine zk_len bn.len ?_
      refine ze_name 2 rfl ?_
      refine ⟨_, .inr (.inl ⟨f a, _, rfl, (T.cell a ha).2, rfl⟩), ?_⟩
      refine ze_ix hr ?_
      refine ze_name 1 rfl ?_
      refine ze_int ?_
      refine IxW.tuple (ds := [.str "move", .str a, .int k, .str b]) rfl ?_
      refine ⟨_, _, rfl, rfl, ?_⟩
      rw [rowsW_len]
      refine ⟨f a, _, ((getT t a).length : Int) - k, (((getT t a).length : Int) - k).toNat, _, rfl, rfl, (T.cell a ha).2, by omega, by omega, by rw [rowsW_len]; exact ix_of (by omega) (by omega), rowsW_get (by omega), ?_⟩
      rw [rowsW_erase]
      have T1 := T.pop ha ((getT t a).eraseIdx (((getT t a).length : Int) - k).toNat)
      refine zs_cons ?_
      refine zs_if ?_
      refine zt_cmp ?_
      refine zc_eqS ?_
      refine ze_ix hr ?_
      refine ze_name 1 rfl ?_
      refine ze_int ?_
      refine IxW.tuple (ds := [.str "move", .str a, .int k, .str b]) rfl ?_
      refine ze_str ?_
      refine ⟨_, _, rfl, rfl, ?_⟩
      refine ⟨_, rfl, ?_⟩
      refine ifd (fun _ => ?_) (fun hc => absurd rfl hc)
      refine zs_cons ?_
      refine zs_asg ?_
      refine zk_sortedM bn.sorted ?_
      refine ze_lst ?_
      refine za_star ?_
      refine ze_ix hr ?_
      refine ze_name 0 rfl ?_
      refine ze_ix hr ?_
      refine ze_name 1 rfl ?_
      refine ze_int ?_
      refine IxW.tuple (ds := [.str "move", .str a, .int k, .str b]) rfl ?_
      refine IxW.get (q := .inr b) (.inr ⟨j, _, rfl, T1.dic, (look_encF f (setT_mem hb)).symm⟩) ?_
      refine ⟨_, .inr (.inr ⟨f b, rfl, (T1.cell b (setT_mem hb)).2⟩), ?_⟩
      refine za_cons ?_
      refine ze_name 3 rfl ?_
      refine za_nil ?_
      have h3 : (getT (setT t a ((getT t a).eraseIdx (((getT t a).length : Int) - k).toNat)) b).length < 4000000 := by rw [getT_set _ ha, if_neg (Ne.symm hab)]; exact lb
      refine ⟨(getT (setT t a ((getT t a).eraseIdx (((getT t a).length : Int) - k).toNat)) b ++ [(getT t a).getD (((getT t a).length : Int) - k).toNat 0]).map .int, by rw [List.map_append, List.map_append]; rfl, by rw [List.length_map, List.length_append]; unfold sizeLine; simp; omega, ?_⟩
      refine ⟨_, .inl rfl, fun _ z => (by cases z), ?_⟩
      refine zg_sub hr ?_
      refine ze_name 0 rfl ?_
      refine ze_ix hr ?_
      refine ze_name 1 rfl ?_
      refine ze_int ?_
      refine IxW.tuple (ds := [.str "move", .str a, .int k, .str b]) rfl ?_
      refine .inr ⟨j, _, .inr b, rfl, rfl, (T1.more _).dic, by rw [encF_len, List.length_map, setT_len]; unfold sizeLine; omega, ?_⟩
      refine zs_nil ?_
      refine zs_nil ?_
      refine zs_nil ?_
      refine zs_nil ?_
      refine zs_nil ?_
      refine zs_nil ?_
      first | (have e : stepT t (.move a k b) = _ := if_pos hc; exact hΦ _ _ (e ▸ T1.put (setT_mem hb) _)) | (have e : stepT t (.move a k b) = t := if_neg hc; exact hΦ _ _ (e ▸ T))
    · refine zs_nil ?_
      refine zs_nil ?_
      refine zs_nil ?_
      refine zs_nil ?_
      refine zs_nil ?_
      first | (have e : stepT t (.move a k b) = _ := if_pos hc; exact hΦ _ _ (e ▸ T1.put (setT_mem hb) _)) | (have e : stepT t (.move a k b) = t := if_neg hc; exact hΦ _ _ (e ▸ T))
  · obtain ⟨ha, hb, hab⟩ := hin
    have la := getT_short ha hl
    have lb := getT_short hb hl
    refine zs_cons ?_
    refine zs_set 2 (hN := nd) ?_
    refine ze_ix hr ?_
    refine ze_name 0 rfl ?_
    refine ze_ix hr ?_
    refine ze_name 1 rfl ?_
    refine ze_int ?_
    refine IxW.tuple (ds := [.str "merge", .str a, .str b]) rfl ?_
    refine IxW.get (q := .inr a) (.inr ⟨j, _, rfl, T.dic, (look_encF f ha).symm⟩) ?_
    refine zs_cons ?_
    refine zs_if ?_
    refine zt_cmp ?_
    refine zc_eqS ?_
    refine ze_ix hr ?_
    refine ze_name 1 rfl ?_
    refine ze_int ?_
    refine IxW.tuple (ds := [.str "merge", .str a, .str b]) rfl ?_
    refine ze_str ?_
    refine ⟨_, _, rfl, rfl, ?_⟩
    refine ⟨_, rfl, ?_⟩
    refine ifd (fun hc => absurd hc (by decide)) (fun _ => ?_)
    refine zs_cons ?_
    refine zs_if ?_
    refine zt_cmp ?_
    refine zc_eqS ?_
    refine ze_ix hr ?_
    refine ze_name 1 rfl ?_
    refine ze_int ?_
    refine IxW.tuple (ds := [.str "merge", .str a, .str b]) rfl ?_
    refine ze_str ?_
    refine ⟨_, _, rfl, rfl, ?_⟩
    refine ⟨_, rfl, ?_⟩
    refine ifd (fun _ => ?_) (fun hc => absurd rfl hc)
    refine zs_cons ?_
    refine zs_asg ?_
    refine zk_sortedM bn.sorted ?_
    refine ze_addL ?_
    refine ze_ix hr ?_
    refine ze_name 0 rfl ?_
    refine ze_ix hr ?_
    refine ze_name 1 rfl ?_
    refine ze_int ?_
    refine IxW.tuple (ds := [.str "merge", .str a, .str b]) rfl ?_
    refine IxW.get (q := .inr b) (.inr ⟨j, _, rfl, T.dic, (look_encF f hb).symm⟩) ?_
    refine ze_name 2 rfl ?_
    refine ⟨(getT t b).map .int, (getT t a).map .int, .inr ⟨f b, rfl, (T.cell b hb).2⟩, .inr ⟨f a, rfl, (T.cell a ha).2⟩, by rw [List.length_map, List.length_map]; unfold sizeLine; omega, ?_⟩
    refine ⟨getT t b ++ getT t a, .inl (by rw [List.map_append]), fun _ z => (by cases z), ?_⟩
    refine zg_sub hr ?_
    refine ze_name 0 rfl ?_
    refine ze_ix hr ?_
    refine ze_name 1 rfl ?_
    refine ze_int ?_
    refine IxW.tuple (ds := [.str "merge", .str a, .str b]) rfl ?_
    refine .inr ⟨j, _, .inr b, rfl, rfl, (T.more _).dic, by rw [encF_len, List.length_map]; unfold sizeLine; omega, ?_⟩
    have T1 := T.put hb (sortI (getT t b ++ getT t a))
    refine zs_cons ?_
    refine zs_asg ?_
    refine ze_lstM ?_
    refine za_nil ?_
    refine ⟨by decide, ?_⟩
    refine zg_sub hr ?_
    refine ze_name 0 rfl ?_
    refine ze_ix hr ?_
    refine ze_name 1 rfl ?_
    refine ze_int ?_
    refine IxW.tuple (ds := [.str "merge", .str a, .str b]) rfl ?_
    refine .inr ⟨j, _, .inr a, rfl, rfl, (T1.more _).dic, by rw [encF_len, List.length_map, setT_len]; unfold sizeLine; omega, ?_⟩
    refine zs_nil ?_
    refine zs_nil ?_
    refine zs_nil ?_
    exact hΦ _ _ (T1.put (setT_mem ha) [])
end K84

namespace K84
open PySem PySem.Spec PyProof.Rows L2 Z
theorem nd_p_done : (n_p_done : List Str).Nodup := by decide +kernel
theorem f_p_done {T : Top} (bn : Bn T) (d : DefAt T "done" s_p_done) (c_p_do_deed : Fz T 1 "do_deed" ["table", "deed"] doS) : Fz T 2 "done" ["house", "table", "script"] doneS := by
  refine fz_of d sc_p_done (fun _ _ _ _ _ _ us hl => match us, hl with | [_, _, _], _ => rfl) ?_
  intro f cdv A outer s H E ws M Φ hr _ hS
  have nd := nd_p_done
  obtain ⟨h, t, ds, rfl, ok, pk, hb, hl, hds, hΦ⟩ := hS
  have hn1 := ok.n1
  have hsl : (sorts h).length = h.length := List.length_map _
  refine zs_cl fun cl => ?_
  refine zs_fin ?_
  refine zs_cons ?_
  refine zs_set 3 (hN := nd) ?_
  refine ze_dcM (own := [("name", 5), ("least", 6), ("most", 7)]) rfl nd (blkOk_by (by first | (show blkC n_p_done (defScope s_p_done) _ _ = true; decide +kernel) | rfl)) ?_
  refine zi_seq ?_
  refine ze_name 0 rfl ?_
  refine SeqW.tuple ?_
  refine ⟨fun i acc M1 => ∃ ff, RowsM M M1 (fun a => getT t a) ((sorts h).take i) ff ∧ acc = encF ((sorts h).take i) ff, ⟨?_, fun i d acc M1 hd hI B => ?_, fun acc M1 hI => ?_⟩⟩
  · exact ⟨fun _ => 0, ⟨⟨[], by simp⟩, by simp, by simp⟩, rfl⟩
  · obtain ⟨ff, RM, rfl⟩ := hI
    obtain ⟨r, hr1, rfl⟩ := get_map hd
    have hs1 : (sorts h)[i]? = some r.name := by unfold sorts; rw [List.getElem?_map, hr1]; rfl
    have nin := take_fresh ok.nd hs1
    have hi : r.name ∈ t.map (·.1) := pk.mem_iff.mpr (List.mem_of_getElem? hs1)
    refine zgb_tup rfl ?_ rfl
    refine zgbs_name 5 (hN := nd) ?_
    refine zgbs_name 6 (hN := nd) ?_
    refine zgbs_name 7 (hN := nd) ?_
    refine zgbs_nil ?_
    intro B
    refine zts_nil ?_
    refine ift fun B => ?_
    refine ze_name 5 rfl ?_
    intro B
    refine zk_listM bn.list ?_
    refine ze_ix hr ?_
    refine ze_name 1 rfl ?_
    refine ze_name 5 rfl ?_
    refine IxW.get (q := .inr r.name) (.inl ⟨_, rfl, by rw [look_tab hi]; rfl⟩) ?_
    refine ⟨(getT t r.name).map .int, .inr (.inl rfl), ?_⟩
    refine ⟨.inr r.name, rfl, by rw [encF_len, List.length_take]; unfold sizeLine; omega, ?_⟩
    show ∃ f2, RowsM M _ _ ((sorts h).take (i + 1)) f2 ∧ _ = encF ((sorts h).take (i + 1)) f2
    rw [take_next hs1]
    exact ⟨_, RM.snoc nin, put_new nin⟩
  · obtain ⟨ff, RM, rfl⟩ := hI
    rw [List.length_map, ← hsl, List.take_length] at RM ⊢
    have T0 := RM.tab (t := startT h t) (startT_keys h t) (fun a ha => startT_get ha)
    refine zs_cons ?_
    refine zs_for PassesOwn.never rfl ?_
    refine zi_seq ?_
    refine ze_name 2 rfl ?_
    refine SeqW.tuple ?_
    refine ⟨fun i Γ1 M3 => ∃ (o : Option W) (f2 : Str → Nat), Γ1 = [some (.d (houseD h)), some (.d (tabD t)), some (.d (scriptD ds)), some (.m M1.length), o, none, none, none] ∧ TabM M M3 (runT (startT h t) (ds.take i)) f2 M1.length, ⟨?_, fun i d Γ1 M3 hd hI => ?_, fun Γ1 M3 hI => ?_⟩⟩
    · exact ⟨none, ff, rfl, T0⟩
    · obtain ⟨o, f2, rfl, T2⟩ := hI
      obtain ⟨dd, hd1, rfl⟩ := get_map hd
      obtain ⟨pool, okd⟩ := hds dd (List.mem_of_getElem? hd1)
      have kk : (runT (startT h t) (ds.take i)).map (·.1) = sorts h := by rw [runT_keys, startT_keys]
      have bd : ∀ p ∈ runT (startT h t) (ds.take i), p.2.length < 4000000 := fun p hp => by
        have h1 := runT_bd (startT_bd hb) (ds.take i).length (ds.take i) rfl p hp
        have h2 : (ds.take i).length ≤ 16 := by rw [List.length_take]; omega
        have h3 : 2 ^ (ds.take i).length ≤ 2 ^ 16 := Nat.pow_le_pow_right (by decide) h2
        omega
      refine zg_name 4 (hN := nd) ?_
      refine zs_cons ?_
      refine zs_expr ?_
      refine ze_call (c_p_do_deed.mono (by decide)) ⟨rfl, rfl, rfl, rfl, rfl⟩ hr ?_
      refine za_cons ?_
      refine ze_name 3 rfl ?_
      refine za_cons ?_
      refine ze_name 4 rfl ?_
      refine za_nil ?_
      refine ⟨rfl, ?_⟩
      refine ⟨M, _, f2, M1.length, dd, rfl, T2, by rw [kk]; exact okd.inN, bd, by have := congrArg List.length kk; rw [List.length_map] at this; omega, bd, fun a k e => by subst e; exact okd.2.1, fun a k e => by subst e; exact okd.2.1, fun a k b e => by subst e; exact okd.2.1, fun M4 f4 T4 => ?_⟩
      refine zs_nil ?_
      exact ⟨_, f4, rfl, by rw [take_next hd1, runT_snoc]; exact T4⟩
    · obtain ⟨o, f3, rfl, T3⟩ := hI
      rw [List.length_map, List.take_length] at T3
      have k3 : (runT (startT h t) ds).map (·.1) = sorts h := by rw [runT_keys, startT_keys]
      have nds : (sortS (sorts h)).Nodup := (sortS_perm _).nodup_iff.mpr ok.nd
      refine zs_cons ?_
      refine zs_ret ?_
      refine ze_dc (own := [("name", 5)]) rfl nd (blkOk_by (by first | (show blkC n_p_done (defScope s_p_done) _ _ = true; decide +kernel) | rfl)) ?_
      refine zi_seq ?_
      refine zk_sortedD (hc := rfl) bn.sorted ?_
      refine ze_name 3 rfl ?_
      refine ⟨sorts h, .inr ⟨M1.length, _, rfl, T3.dic, by rw [k3]; unfold encF; rw [List.map_map]; rfl⟩, by omega, ?_⟩
      refine SeqW.list ?_
      refine ⟨fun i acc M5 => M5 = M3 ∧ acc = ((sortS (sorts h)).take i).map fun a => ((Sum.inr a : Key), W.d (.tuple ((getT (runT (startT h t) ds) a).map .int))), ⟨?_, fun i d acc M5 hd hI B => ?_, fun acc M5 hI => ?_⟩⟩
      · exact ⟨rfl, rfl⟩
      · obtain ⟨rfl, rfl⟩ := hI
        obtain ⟨nm, hnm, rfl⟩ := get_map hd
        have hm : nm ∈ (runT (startT h t) ds).map (·.1) := by rw [k3]; exact (sortS_perm _).mem_iff.mp (List.mem_of_getElem? hnm)
        refine zgb_name 5 (hN := nd) ?_
        intro B
        refine zts_nil ?_
        refine ift fun B => ?_
        refine ze_name 5 rfl ?_
        intro B
        refine zk_tuple bn.tuple ?_
        refine ze_ix hr ?_
        refine ze_name 3 rfl ?_
        refine ze_name 5 rfl ?_
        refine IxW.get (q := .inr nm) (.inr ⟨M1.length, _, rfl, T3.dic, (look_encF f3 hm).symm⟩) ?_
        refine ⟨(getT (runT (startT h t) ds) nm).map .int, .inr (.inr ⟨f3 nm, rfl, (T3.cell nm hm).2⟩), ?_⟩
        refine ⟨.inr nm, rfl, by rw [List.length_map, List.length_take, (sortS_perm _).length_eq]; unfold sizeLine; omega, rfl, ?_⟩
        rw [take_next hnm, List.map_append]
        exact put_app fun kv hkv z => by
          obtain ⟨x, hx, rfl⟩ := List.mem_map.mp hkv
          exact take_fresh nds hnm (Sum.inr.inj z ▸ hx)
      · obtain ⟨rfl, rfl⟩ := hI
        rw [List.length_map, List.take_length]
        refine ⟨(sortS (sorts h)).map fun a => ((Sum.inr a : Key), PyData.tuple ((getT (runT (startT h t) ds) a).map .int)), by rw [List.map_map]; rfl, ?_⟩
        have z := hΦ (sortS (sorts h)) (sortS_perm _)
        unfold tabD at z
        rw [List.map_map] at z
        obtain ⟨J, eJ⟩ := T3.pre
        rw [eJ]
        exact fin_dat (A := M) (Nat.le_refl _) cl z
end K84

namespace K84
open PySem PySem.Spec PyProof.Rows L2 Z
theorem more_bd : ∀ {c c2 : List Int}, c2.length = c.length → (∀ p ∈ List.zip c c2, p.1 ≤ p.2 ∧ p.2 ≤ p.1 + 3) → (∀ n ∈ c, 0 ≤ n ∧ n ≤ 40) → ∀ n ∈ c2, 0 ≤ n ∧ n ≤ 43
  | [], [], _, _, _, n, hn => absurd hn (by simp)
  | [], _ :: _, h, _, _, _, _ => absurd h (by simp)
  | _ :: _, [], h, _, _, _, _ => absurd h (by simp)
  | a :: c, b :: c2, h, hz, hc, n, hn => by
    rcases List.mem_cons.mp hn with rfl | z
    · have h1 := hz (a, n) (by simp)
      have h2 := hc a (by simp)
      dsimp only at h1
      omega
    · exact more_bd (by simpa using h) (fun p hp => hz p (by simp [hp])) (fun m hm => hc m (by simp [hm])) n z
theorem nd_is_map_right : (n_is_map_right : List Str).Nodup := by decide +kernel
theorem f_is_map_right {T : Top} (bn : Bn T) (d : DefAt T "_law_is_map_right" s_is_map_right) (c_one : Fz T 2 "_law_one" ["_law_bag_here", "_law_things"] oneS) (c_more : Fz T 3 "_law_more" ["_law_bag_here", "_law_counts"] moreS) (c_p_counts_behind : Fz T 2 "counts_behind" ["house", "script", "number", "counts"] behindS) (c_map : Fz T 2 "_law_map" ["_law_house_here", "_law_script_here", "_law_number", "_law_counts"] behindS) (c_alike : Fz T 1 "_law_alike" ["_law_found", "_law_due"] alikeS) (c_within : Fz T 1 "_law_within" ["_law_one_here", "_law_other"] withinS) : Fz T 4 "_law_is_map_right" ["_law_bag_here", "_law_house_here", "_law_deeds", "_law_numbers_here"] mapRightS := by
  refine fz_of d sc_is_map_right (fun _ _ _ _ _ _ us hl => match us, hl with | [_, _, _, _], _ => rfl) ?_
  intro f cdv A outer s H E ws M Φ hr _ hS
  have nd := nd_is_map_right
  obtain ⟨b0, R, h, ds, pool, ns, rfl, rfl, g0, ok, hds, hl, n0, n1, hΦ⟩ := hS
  have hn1 := ok.n1
  have hsl : (sorts h).length = h.length := List.length_map _
  have hin : ∀ d ∈ ds, InN (sorts h) d := fun d hd => (hds d hd).inN
  refine zs_cons ?_
  refine zs_for PassesOwn.never rfl ?_
  refine zi_range1 bn.range ?_
  refine ze_int ?_
  refine ⟨6, rfl, by decide, ?_⟩
  refine ⟨fun i Γ1 M1 => ∃ (b1 : Bag) (o4 o5 o6 o7 o8 : Option W), Γ1 = [some (.m 0), some (.d (houseD h)), some (.d (scriptD ds)), some (.d (.list (ns.map .int))), o4, o5, o6, o7, o8, none] ∧ M1 = bagO b1 :: R ∧ b1.Good, ⟨?_, fun i d Γ1 M1 hd hI => ?_, fun Γ1 M1 hI => ?_⟩⟩
  · exact ⟨b0, none, none, none, none, none, rfl, rfl, g0⟩
  · obtain ⟨b1, o4, o5, o6, o7, o8, rfl, rfl, g1⟩ := hI
    refine zg_name 4 (hN := nd) ?_
    refine zs_cons ?_
    refine zs_set 5 (hN := nd) ?_
    refine zk_tuple bn.tuple ?_
    refine ze_lc (own := [("_law_sort_here", 9)]) rfl nd (blkOk_by (by first | (show blkC n_is_map_right (defScope s_is_map_right) _ _ = true; decide +kernel) | rfl)) ?_
    refine zi_seq ?_
    refine ze_name 1 rfl ?_
    refine SeqW.tuple ?_
    refine ⟨fun i acc M1 => ∃ (b2 : Bag) (c : List Int), M1 = bagO b2 :: R ∧ b2.Good ∧ acc = c.map (fun n => .d (.int n)) ∧ c.length = i ∧ ∀ n ∈ c, 0 ≤ n ∧ n ≤ 40, ⟨?_, fun i d acc M1 hd hI B => ?_, fun acc M1 hI => ?_⟩⟩
    · exact ⟨b1, [], rfl, g1, rfl, rfl, by simp⟩
    · obtain ⟨b2, c, rfl, g2, rfl, hcl, hc⟩ := hI
      have hi := (List.getElem?_eq_some_iff.mp hd).1
      rw [List.length_map] at hi
      refine zgb_name 9 (hN := nd) ?_
      intro B
      refine zts_nil ?_
      refine ift fun B => ?_
      refine ze_call (c_one.mono (by decide)) ⟨rfl, rfl, rfl, rfl, rfl⟩ hr ?_
      refine za_cons ?_
      refine ze_name 0 rfl ?_
      refine za_cons ?_
      refine ze_lst ?_
      refine za_cons ?_
      refine ze_int ?_
      refine za_cons ?_
      refine ze_int ?_
      refine za_cons ?_
      refine ze_int ?_
      refine za_cons ?_
      refine ze_int ?_
      refine za_cons ?_
      refine ze_int ?_
      refine za_cons ?_
      refine ze_int ?_
      refine za_cons ?_
      refine ze_int ?_
      refine za_cons ?_
      refine ze_int ?_
      refine za_nil ?_
      refine ⟨[_, _, _, _, _, _, _, _], rfl, Nat.le_of_ble_eq_true rfl, ?_⟩
      refine za_nil ?_
      refine ⟨rfl, ?_⟩
      refine ⟨b2, R, _, _, rfl, rfl, .inl rfl, g2, by decide, by decide, fun d b3 hd2 g3 => ?_⟩
      obtain ⟨v, hv, rfl⟩ := mem_ints (ns := [0, 1, 2, 3, 5, 9, 14, 40]) hd2
      have hv2 : 0 ≤ v ∧ v ≤ 40 := by simp at hv; omega
      refine ⟨by rw [List.length_map]; unfold sizeLine; omega, b3, c ++ [v], rfl, g3, by simp, by simp [hcl], fun n hn => ?_⟩
      rcases List.mem_append.mp hn with z | z
      · exact hc n z
      · rw [List.mem_singleton.mp z]; exact hv2
    · obtain ⟨b2, c, rfl, g2, rfl, hcl, hc⟩ := hI
      rw [List.length_map] at hcl
      refine ⟨c.map .int, by rw [List.map_map]; rfl, ?_⟩
      refine ⟨_, .inl rfl, ?_⟩
      refine zs_cons ?_
      refine zs_par 6 7 rfl (hN := nd) ?_
      refine ze_call (c_one.mono (by decide)) ⟨rfl, rfl, rfl, rfl, rfl⟩ hr ?_
      refine za_cons ?_
      refine ze_name 0 rfl ?_
      refine za_cons ?_
      refine ze_name 3 rfl ?_
      refine za_nil ?_
      refine ⟨rfl, ?_⟩
      refine ⟨b2, R, _, _, rfl, rfl, .inl rfl, g2, by rw [List.length_map]; exact n0, by rw [List.length_map]; exact n1, fun d b3 hd2 g3 => ?_⟩
      obtain ⟨num, hnum, rfl⟩ := mem_ints hd2
      refine ze_call (c_more.mono (by decide)) ⟨rfl, rfl, rfl, rfl, rfl⟩ hr ?_
      refine za_cons ?_
      refine ze_name 0 rfl ?_
      refine za_cons ?_
      refine ze_name 5 rfl ?_
      refine za_nil ?_
      refine ⟨rfl, ?_⟩
      refine ⟨b3, R, c, rfl, rfl, g3, by omega, fun c2 b4 hc2 hle g4 => ?_⟩
      have hck : (List.zip (sorts h) c).map (·.1) = sorts h := zip_keys (by omega)
      have hck2 : (List.zip (sorts h) c2).map (·.1) = sorts h := zip_keys (by omega)
      have sm := small_run (num := num) (small_zip (ks := sorts h) (c := c) fun n hn => by have := hc n hn; omega) hl hds
      have sm2 := small_run (num := num) (small_zip (ks := sorts h) (c := c2) fun n hn => (more_bd hc2 hle hc n hn)) hl hds
      have lr : (runA num (List.zip (sorts h) c) ds).length ≤ 9 := by rw [runA_len, List.length_zip]; omega
      have lr2 : (runA num (List.zip (sorts h) c2) ds).length ≤ 9 := by rw [runA_len, List.length_zip]; omega
      refine zs_cons ?_
      refine zs_set 8 (hN := nd) ?_
      refine ze_lst ?_
      refine za_cons ?_
      refine ze_call (c_p_counts_behind.mono (by decide)) ⟨rfl, rfl, rfl, rfl, rfl⟩ hr ?_
      refine za_cons ?_
      refine ze_name 1 rfl ?_
      refine za_cons ?_
      refine ze_name 2 rfl ?_
      refine za_cons ?_
      refine ze_name 6 rfl ?_
      refine za_cons ?_
      refine ze_name 5 rfl ?_
      refine za_nil ?_
      refine ⟨rfl, ?_⟩
      refine ⟨h, ds, _, c, rfl, ok, by omega, hin, by omega, ?_⟩
      refine za_cons ?_
      refine ze_call (c_p_counts_behind.mono (by decide)) ⟨rfl, rfl, rfl, rfl, rfl⟩ hr ?_
      refine za_cons ?_
      refine ze_name 1 rfl ?_
      refine za_cons ?_
      refine ze_name 2 rfl ?_
      refine za_cons ?_
      refine ze_name 6 rfl ?_
      refine za_cons ?_
      refine ze_name 7 rfl ?_
      refine za_nil ?_
      refine ⟨rfl, ?_⟩
      refine ⟨h, ds, _, c2, rfl, ok, by omega, hin, by omega, ?_⟩
      refine za_nil ?_
      refine ⟨[_, _], rfl, Nat.le_of_ble_eq_true rfl, ?_⟩
      refine zs_cons ?_
      refine zs_if ?_
      refine zt_not ?_
      refine zt_val ?_
      refine ze_call (c_alike.mono (by decide)) ⟨rfl, rfl, rfl, rfl, rfl⟩ hr ?_
      refine za_cons ?_
      refine ze_name 8 rfl ?_
      refine za_cons ?_
      refine ze_lst ?_
      refine za_cons ?_
      refine ze_call (c_map.mono (by decide)) ⟨rfl, rfl, rfl, rfl, rfl⟩ hr ?_
      refine za_cons ?_
      refine ze_name 1 rfl ?_
      refine za_cons ?_
      refine ze_name 2 rfl ?_
      refine za_cons ?_
      refine ze_name 6 rfl ?_
      refine za_cons ?_
      refine ze_name 5 rfl ?_
      refine za_nil ?_
      refine ⟨rfl, ?_⟩
      refine ⟨h, ds, _, c, rfl, ok, by omega, hin, by omega, ?_⟩
      refine za_cons ?_
      refine ze_call (c_map.mono (by decide)) ⟨rfl, rfl, rfl, rfl, rfl⟩ hr ?_
      refine za_cons ?_
      refine ze_name 1 rfl ?_
      refine za_cons ?_
      refine ze_name 2 rfl ?_
      refine za_cons ?_
      refine ze_name 6 rfl ?_
      refine za_cons ?_
      refine ze_name 7 rfl ?_
      refine za_nil ?_
      refine ⟨rfl, ?_⟩
      refine ⟨h, ds, _, c2, rfl, ok, by omega, hin, by omega, ?_⟩
      refine za_nil ?_
      refine ⟨[_, _], rfl, Nat.le_of_ble_eq_true rfl, ?_⟩
      refine za_nil ?_
      refine ⟨rfl, ?_⟩
      refine ⟨_, rfl, plain_two sm sm2 lr lr2, ?_⟩
      refine ⟨_, rfl, ?_⟩
      refine iff_ ?_
      refine zs_nil ?_
      refine zs_cons ?_
      refine zs_if ?_
      refine zt_not ?_
      refine zt_val ?_
      refine ze_call (c_within.mono (by decide)) ⟨rfl, rfl, rfl, rfl, rfl⟩ hr ?_
      refine za_cons ?_
      refine ze_ix hr ?_
      refine ze_name 8 rfl ?_
      refine ze_int ?_
      refine IxW.list (ds := [ctsD _, ctsD _]) rfl ?_
      refine za_cons ?_
      refine ze_ix hr ?_
      refine ze_name 8 rfl ?_
      refine ze_int ?_
      refine IxW.list (ds := [ctsD _, ctsD _]) rfl ?_
      refine za_nil ?_
      refine ⟨rfl, ?_⟩
      refine ⟨ctsL _, ctsL _, by rw [ctsD_eq, ctsD_eq], by unfold ctsL; rw [List.length_map]; omega, ?_, ?_⟩
      · refine zip_below (by rw [runA_keys, hck]; exact ok.nd) (Below.run ds (below_zip ok.nd (by omega) (by omega) fun p hp => (hle p hp).1) fun d hd => ?_)
        rw [hck]
        exact hin d hd
      refine ⟨_, rfl, ?_⟩
      refine iff_ ?_
      refine zs_nil ?_
      refine zs_nil ?_
      exact ⟨b4, _, _, _, _, _, rfl, rfl, g4⟩
  · obtain ⟨b1, o4, o5, o6, o7, o8, rfl, rfl, g1⟩ := hI
    refine zs_cons ?_
    refine zs_ret ?_
    refine ze_bl ?_
    exact hΦ b1 g1
end K84

namespace K84
open PySem PySem.Spec PyProof.Rows L2 Z
theorem f_p_marks_ofM {T : Top} (bn : Bn T) (d : DefAt T "marks_of" s_p_marks_of) : Fz T 1 "marks_of" ["script"] marksMS := by
  refine fz_of d sc_p_marks_of (fun _ _ _ _ _ _ us hl => match us, hl with | [_], _ => rfl) ?_
  intro f cdv A outer s H E ws M Φ hr _ hS
  have nd := nd_p_marks_of
  obtain ⟨ds, rfl, hl, hΦ⟩ := hS
  refine zs_cons ?_
  refine zs_ret ?_
  refine zk_sortedScM bn.sorted (own := [("deed", 1)]) rfl nd (blkOk_by (by first | (show blkC n_p_marks_of (defScope s_p_marks_of) _ _ = true; decide +kernel) | rfl)) ?_
  refine zi_seq ?_
  refine ze_name 0 rfl ?_
  refine SeqW.tuple ?_
  refine ScT.pure ds deedD comeN (by omega) (fun d hd B => ?_) ?_
  · obtain ⟨wd, rest, hwd, hd0⟩ := deed_word d
    refine zgb_name 1 (hN := nd) ?_
    intro B
    refine zts_one ?_
    refine zt_cmp ?_
    refine zc_eqS ?_
    refine ze_ix hr ?_
    refine ze_name 1 rfl ?_
    refine ze_int ?_
    refine IxW.tupE hd0 (atI_zero _ _) ?_
    refine ze_str ?_
    refine ⟨_, _, rfl, rfl, ?_⟩
    refine ⟨_, rfl, ?_⟩
    refine ifd (fun hc => ?_) (fun hc => ?_)
    · intro B
      refine ze_ix hr ?_
      refine ze_name 1 rfl ?_
      refine ze_int ?_
      obtain ⟨a, n, rfl⟩ := hwd.1 hc
      refine IxW.tuple (ds := [.str "come", .str a, .int n]) rfl ?_
      exact ⟨⟨_, rfl, rfl⟩, rfl⟩
    · exact ⟨hwd.2 hc, rfl⟩
  intro ks hks
  obtain rfl : comesOf ds = ks := ints_inj hks
  exact hΦ

def allN (pool ks : List Int) (lw hi : Int) : List Int := pool ++ ks ++ (pool ++ ks).map (fun n => n + 1) ++ [lw, hi + 9]
theorem nd_p_law : (n_p_law : List Str).Nodup := by decide +kernel
theorem b_p_law {T : Top} (bn : Bn T) (c_house : Fz T 4 "_law_house" ["_law_bag_here", "_law_most"] houseS) (c_numbers : Fz T 3 "_law_numbers" ["_law_bag_here"] numbersS) (c_table : Fz T 3 "_law_table" ["_law_bag_here", "_law_house_here", "_law_pool", "_law_more_here"] tableS) (c_one : Fz T 2 "_law_one" ["_law_bag_here", "_law_things"] oneS) (c_script : Fz T 4 "_law_script" ["_law_bag_here", "_law_house_here", "_law_pool", "_law_many", "_law_most"] scriptS) (c_marks : Fz T 1 "_law_marks" ["_law_script_here"] marksS) (c_p_done : Fz T 2 "done" ["house", "table", "script"] doneS) (c_p_marks_ofM : Fz T 1 "marks_of" ["script"] marksMS) (c_alike : Fz T 1 "_law_alike" ["_law_found", "_law_due"] alikeS) (c_at : Fz T 1 "_law_at" ["_law_house_here", "_law_table_here", "_law_number"] atS) (c_p_counts_behind : Fz T 2 "counts_behind" ["house", "script", "number", "counts"] behindS) (c_is_map_right : Fz T 5 "_law_is_map_right" ["_law_bag_here", "_law_house_here", "_law_deeds", "_law_numbers_here"] mapRightS) (c_p_marks_ofD : Fz T 1 "marks_of" ["script"] marksS) (f : Addr) (cdv : Value) (A : Around) (outer : List Env) (s : Shared) (H : Hp) (E : XK) (b0 : Bag) (g0 : b0.Good) (hr : RoomZ 5 (A.deeper (envOfC "law" (defScope s_p_law) s.heap.objs.size f cdv))) :
    ZSs (dcx T "law" s_p_law n_p_law f cdv A outer s H E) ((defBody s_p_law).drop 1) [none, some (.m 0), none, none, none, none, none, none, none, none, none, none, none, none, none] [bagO b0] { nx := fun _ _ => False, rt := fun w _ => w = .d (.bool true) } := by
  have nd := nd_p_law
  refine zs_cons ?_
  refine zs_for PassesOwn.never rfl ?_
  refine zi_range1 bn.range ?_
  refine ze_int ?_
  refine ⟨4, rfl, by decide, ?_⟩
  refine ⟨fun i Γ1 M1 => ∃ (b1 : Bag) (R : MS) (o2 o3 o4 o5 o6 o7 o8 o9 o10 o11 o12 o13 o14 : Option W), Γ1 = [none, some (.m 0), o2, o3, o4, o5, o6, o7, o8, o9, o10, o11, o12, o13, o14] ∧ M1 = bagO b1 :: R ∧ b1.Good, ⟨?_, fun i d Γ1 M1 hd hI => ?_, fun Γ1 M1 hI => ?_⟩⟩
  · exact ⟨b0, [], none, none, none, none, none, none, none, none, none, none, none, none, none, rfl, rfl, g0⟩
  · obtain ⟨b1, R, o2, o3, o4, o5, o6, o7, o8, o9, o10, o11, o12, o13, o14, rfl, rfl, g1⟩ := hI
    refine zg_name 2 (hN := nd) ?_
    refine zs_cons ?_
    refine zs_par 3 4 rfl (hN := nd) ?_
    refine ze_call (c_house.mono (by decide)) ⟨rfl, rfl, rfl, rfl, rfl⟩ hr ?_
    refine za_cons ?_
    refine ze_name 1 rfl ?_
    refine za_cons ?_
    refine ze_int ?_
    refine za_nil ?_
    refine ⟨rfl, ?_⟩
    refine ⟨b1, R, 4, rfl, rfl, g1, by decide, by decide, fun h b2 ok g2 => ?_⟩
    have hn1 := ok.n1
    have hsl : (sorts h).length = h.length := List.length_map _
    refine ze_call (c_numbers.mono (by decide)) ⟨rfl, rfl, rfl, rfl, rfl⟩ hr ?_
    refine za_cons ?_
    refine ze_name 1 rfl ?_
    refine za_nil ?_
    refine ⟨rfl, ?_⟩
    refine ⟨b2, R, rfl, rfl, g2, fun pool b3 pok g3 => ?_⟩
    obtain ⟨p0, p1, p2⟩ := pok
    obtain ⟨lo, hlo, hi, hhi, elo, ehi⟩ := pool_ends p0
    have plo := p2 lo hlo
    have phi := p2 hi hhi
    have pl : 0 < pool.length := List.length_pos_of_mem hlo
    have nB : (100 : Int) < numB := by decide
    refine zs_cons ?_
    refine zs_set 5 (hN := nd) ?_
    refine ze_call (c_table.mono (by decide)) ⟨rfl, rfl, rfl, rfl, rfl⟩ hr ?_
    refine za_cons ?_
    refine ze_name 1 rfl ?_
    refine za_cons ?_
    refine ze_name 3 rfl ?_
    refine za_cons ?_
    refine ze_name 4 rfl ?_
    refine za_cons ?_
    refine ze_int ?_
    refine za_nil ?_
    refine ⟨rfl, ?_⟩
    refine ⟨b3, R, h, pool, 2, rfl, rfl, g3, ok, pl, by omega, by decide, by decide, fun t b5 tok g5 => ?_⟩
    refine zs_cons ?_
    refine zs_set 6 (hN := nd) ?_
    refine ze_call (c_script.mono (by decide)) ⟨rfl, rfl, rfl, rfl, rfl⟩ hr ?_
    refine za_cons ?_
    refine ze_name 1 rfl ?_
    refine za_cons ?_
    refine ze_name 3 rfl ?_
    refine za_cons ?_
    refine ze_add ?_
    refine ze_name 4 rfl ?_
    refine ze_lst ?_
    refine za_cons ?_
    refine ze_add ?_
    refine ze_ix hr ?_
    refine ze_name 4 rfl ?_
    refine ze_neg ?_
    refine ze_int ?_
    refine ⟨_, rfl, ?_⟩
    refine IxW.list ehi ?_
    refine ze_int ?_
    refine AddW.int ?_
    refine za_cons ?_
    refine ze_int ?_
    refine za_nil ?_
    refine ⟨[_, _], rfl, Nat.le_of_ble_eq_true rfl, ?_⟩
    refine AddW.list (by rw [List.length_map]; show pool.length + 2 ≤ sizeLine; unfold sizeLine; omega) ?_
    refine za_cons ?_
    refine ze_int ?_
    refine za_cons ?_
    refine ze_call (c_one.mono (by decide)) ⟨rfl, rfl, rfl, rfl, rfl⟩ hr ?_
    refine za_cons ?_
    refine ze_name 1 rfl ?_
    refine za_cons ?_
    refine ze_lst ?_
    refine za_cons ?_
    refine ze_int ?_
    refine za_cons ?_
    refine ze_int ?_
    refine za_cons ?_
    refine ze_int ?_
    refine za_nil ?_
    refine ⟨[_, _, _], rfl, Nat.le_of_ble_eq_true rfl, ?_⟩
    refine za_nil ?_
    refine ⟨rfl, ?_⟩
    refine ⟨b5, R, _, _, rfl, rfl, .inl rfl, g5, by decide, by decide, fun d b6 hd2 g6 => ?_⟩
    obtain ⟨mk, hmk, rfl⟩ := mem_ints (ns := [2, 3, 9]) hd2
    have hmk2 : 1 ≤ mk ∧ mk ≤ 900 := by simp at hmk; omega
    refine za_nil ?_
    refine ⟨rfl, ?_⟩
    refine ⟨b6, R, h, pool ++ [hi + 4, 3], 12, mk, by simp, rfl, g6, ok, by simp, by simp; omega, by decide, by decide, hmk2.1, hmk2.2, fun ds b4 hdl hds g4 => ?_⟩
    have hdl2 : ds.length ≤ 12 := by omega
    have pb : PoolB (pool ++ [hi + 4, 3]) := fun n hn => by
      rcases List.mem_append.mp hn with z | z
      · have := p2 n z
        omega
      · simp at z
        unfold numB
        unfold numB at phi
        omega
    have pb0 : PoolB pool := fun n hn => pb n (by simp [hn])
    have ktab : ∀ p ∈ t, p.1 ∈ menu := fun p hp => by
      have := tok.keys.mem_iff.mp (List.mem_map.mpr ⟨p, hp, rfl⟩)
      obtain ⟨r, hr1, e⟩ := List.mem_map.mp this
      rw [← e]
      exact ok.mem r hr1
    have ltab : t.length ≤ 9 := by
      have := tok.keys.length_eq
      rw [List.length_map, List.length_map] at this
      omega
    have msh := mild_three (mild_house ok) (mild_tab ktab pb0 (fun p hp => (tok.rows p hp).2) ltab) (mild_script (fun s hs => by obtain ⟨r, hr1, rfl⟩ := List.mem_map.mp hs; exact ok.mem r hr1) pb hds (by omega))
    have ck := comes_pool hds
    have cl := comes_len ds
    have tb : ∀ p ∈ t, p.2.length ≤ 40 := fun p hp => (tok.rows p hp).2.1
    have rst := rising_start (h := h) fun p hp => (tok.rows p hp).1
    have hin : ∀ d ∈ ds, InN (sorts h) d := fun d hd => (hds d hd).inN
    refine zs_cons ?_
    refine zs_par3 7 8 9 rfl (hN := nd) ?_
    refine ze_call (c_marks.mono (by decide)) ⟨rfl, rfl, rfl, rfl, rfl⟩ hr ?_
    refine za_cons ?_
    refine ze_name 6 rfl ?_
    refine za_nil ?_
    refine ⟨rfl, ?_⟩
    refine ⟨ds, rfl, by omega, fun ks pwk hmk => ?_⟩
    have kl : ks.length ≤ 12 := by have := rise_len pwk fun k hk => (hmk k).mp hk; omega
    have pks : Plain (.list (ks.map .int)) := plain_ints (fun n hn => by have := pb n (ck n ((hmk n).mp hn)); unfold numB at this; omega) (by omega)
    refine ze_call (c_p_done.mono (by decide)) ⟨rfl, rfl, rfl, rfl, rfl⟩ hr ?_
    refine za_cons ?_
    refine ze_name 3 rfl ?_
    refine za_cons ?_
    refine ze_name 5 rfl ?_
    refine za_cons ?_
    refine ze_name 6 rfl ?_
    refine za_nil ?_
    refine ⟨rfl, ?_⟩
    refine ⟨h, t, ds, rfl, ok, tok.keys, tb, by omega, fun d hd => ⟨_, hds d hd⟩, fun kn pkn => ?_⟩
    refine zk_repr hr bn.sys bn.repr ?_
    refine ze_lst ?_
    refine za_cons ?_
    refine ze_name 3 rfl ?_
    refine za_cons ?_
    refine ze_name 5 rfl ?_
    refine za_cons ?_
    refine ze_name 6 rfl ?_
    refine za_nil ?_
    refine ⟨[_, _, _], rfl, Nat.le_of_ble_eq_true rfl, ?_⟩
    refine ⟨_, rfl, msh.sw, Nat.le_trans msh.dp (by decide), msh.shown (by decide), ?_⟩
    refine zs_cons ?_
    refine zs_set 10 (hN := nd) ?_
    refine ze_call (c_p_marks_ofM.mono (by decide)) ⟨rfl, rfl, rfl, rfl, rfl⟩ hr ?_
    refine za_cons ?_
    refine ze_name 6 rfl ?_
    refine za_nil ?_
    refine ⟨rfl, ?_⟩
    refine ⟨ds, rfl, by omega, fun ks2 pwk2 hmk2 => ?_⟩
    obtain rfl : ks = ks2 := rise_eq pwk pwk2 fun k => (hmk k).trans (hmk2 k).symm
    refine zs_cons ?_
    refine zs_if ?_
    refine zt_not ?_
    refine zt_val ?_
    refine ze_lend (c_alike.mono (by decide)) ⟨rfl, rfl, rfl, rfl, rfl⟩ hr ?_
    refine za_cons ?_
    refine ze_name 10 rfl ?_
    refine za_cons ?_
    refine ze_name 7 rfl ?_
    refine za_nil ?_
    refine ⟨rfl, [.list (ks.map .int), .list (ks.map .int)], .cons (.inr ⟨_, ks.map .int, rfl, at_end (bagO b4 :: R) _, rfl⟩) (.cons (.inl rfl) .nil), ?_⟩
    refine ⟨_, rfl, pks, ?_⟩
    refine ⟨_, rfl, rfl, ?_⟩
    refine ⟨_, rfl, ?_⟩
    refine iff_ ?_
    refine zs_nil ?_
    refine zs_cons ?_
    refine zs_expr ?_
    refine zm_append ?_
    refine ze_name 10 rfl ?_
    refine ⟨.inr ⟨_, _, rfl, at_end (bagO b4 :: R) _⟩, ?_⟩
    refine ze_non ?_
    refine ⟨_, _, rfl, at_end (bagO b4 :: R) _, by rw [List.length_map, List.length_map]; unfold sizeLine; omega, ?_⟩
    rw [set_end]
    refine zs_cons ?_
    refine zs_set 11 (hN := nd) ?_
    refine ZE.mono (Φ := fun w0 M0 => ∃ lw : Int, w0 = .d (.int lw) ∧ (-numB * 2 ≤ lw ∧ lw ≤ numB * 2) ∧ M0 = bagO b4 :: (R ++ [MO.lst ((ks.map PyData.int).map W.d ++ [.d .none])])) ?_ ?_
    · refine ze_if ?_
      refine zt_cmp ?_
      refine zc_gt ?_
      refine ze_ix hr ?_
      refine ze_name 4 rfl ?_
      refine ze_int ?_
      refine IxW.list elo ?_
      refine ze_neg ?_
      refine ze_int ?_
      refine ⟨_, rfl, ?_⟩
      refine ⟨_, _, rfl, rfl, ?_⟩
      refine ⟨_, rfl, ?_⟩
      refine ifd (fun hc => ?_) (fun hc => ?_)
      · refine ze_sub ?_
        refine ze_ix hr ?_
        refine ze_name 4 rfl ?_
        refine ze_int ?_
        refine IxW.list elo ?_
        refine ze_int ?_
        refine ⟨_, _, rfl, rfl, ?_⟩
        exact ⟨_, rfl, by omega, rfl⟩
      · refine ze_ix hr ?_
        refine ze_name 4 rfl ?_
        refine ze_int ?_
        refine IxW.list elo ?_
        exact ⟨_, rfl, by omega, rfl⟩
    · rintro w0 M0 ⟨lw, rfl, hlw, rfl⟩
      refine zs_cons ?_
      refine zs_set 13 (hN := nd) ?_
      refine zk_sortedSet bn.sorted bn.set rfl ?_
      refine ze_add ?_
      refine ze_add ?_
      refine ze_add ?_
      refine ze_name 4 rfl ?_
      refine ze_name 7 rfl ?_
      refine AddW.list (by rw [List.length_map, List.length_map]; unfold sizeLine; omega) ?_
      refine ze_lc (own := [("_law_number", 12)]) rfl nd (blkOk_by (by first | (show blkC n_p_law (defScope s_p_law) _ _ = true; decide +kernel) | rfl)) ?_
      refine zi_seq ?_
      refine ze_add ?_
      refine ze_name 4 rfl ?_
      refine ze_name 7 rfl ?_
      refine AddW.list (by rw [List.length_map, List.length_map]; unfold sizeLine; omega) ?_
      rw [← List.map_append]
      refine SeqW.list ?_
      refine LcT.map (pool ++ ks) .int (fun n => .int (n + 1)) (by rw [List.length_append]; unfold sizeLine; omega) (fun n hn B => ?_) ?_
      · skip
        refine zgb_name 12 (hN := nd) ?_
        intro B
        refine ze_add ?_
        refine ze_name 12 rfl ?_
        refine ze_int ?_
        refine AddW.int ?_
        exact ⟨rfl, rfl⟩
      refine ⟨_, rfl, ?_⟩
      refine AddW.list (by simp; unfold sizeLine; omega) ?_
      refine ze_lst ?_
      refine za_cons ?_
      refine ze_name 11 rfl ?_
      refine za_cons ?_
      refine ze_add ?_
      refine ze_ix hr ?_
      refine ze_name 4 rfl ?_
      refine ze_neg ?_
      refine ze_int ?_
      refine ⟨_, rfl, ?_⟩
      refine IxW.list ehi ?_
      refine ze_int ?_
      refine AddW.int ?_
      refine za_nil ?_
      refine ⟨[_, _], rfl, Nat.le_of_ble_eq_true rfl, ?_⟩
      refine AddW.list (by simp; unfold sizeLine; omega) ?_
      refine ⟨allN pool ks lw hi, by unfold allN; simp [Function.comp_def], by unfold allN; simp; omega, fun ns pwn hmn => ?_⟩
      have hnl : ns.length ≤ (allN pool ks lw hi).length := rise_len pwn fun k hk => (hmn k).mp hk
      have hal : (allN pool ks lw hi).length ≤ 40 := by unfold allN; simp; omega
      have hn0 : 0 < ns.length := List.length_pos_of_mem ((hmn lw).mpr (by unfold allN; simp))
      refine zs_cons ?_
      refine zs_for PassesOwn.never rfl ?_
      refine zi_seq ?_
      refine ze_name 13 rfl ?_
      refine SeqW.list ?_
      refine ⟨fun i Γ1 M1 => ∃ (o12 o14 : Option W), Γ1 = [none, some (.m 0), some (.d d), some (.d (houseD h)), some (.d (.list (pool.map .int))), some (.d (tabD t)), some (.d (scriptD ds)), some (.d (.list (ks.map .int))), some (.d (tabD (kn.map fun a => (a, getT (runT (startT h t) ds) a)))), some (.d (.str (PyData.list [houseD h, tabD t, scriptD ds]).shown)), some (.m (bagO b4 :: R).length), some (.d (.int lw)), o12, some (.d (.list (ns.map .int))), o14] ∧ M1 = bagO b4 :: (R ++ [MO.lst ((ks.map PyData.int).map W.d ++ [.d .none])]), ⟨?_, fun i d Γ1 M1 hd hI => ?_, fun Γ1 M1 hI => ?_⟩⟩
      · exact ⟨_, _, rfl, rfl⟩
      · obtain ⟨o12b, o14b, rfl, rfl⟩ := hI
        obtain ⟨num, hnum, rfl⟩ := get_map hd
        refine zg_name 12 (hN := nd) ?_
        refine zs_cons ?_
        refine zs_set 14 (hN := nd) ?_
        refine ze_call (c_at.mono (by decide)) ⟨rfl, rfl, rfl, rfl, rfl⟩ hr ?_
        refine za_cons ?_
        refine ze_name 3 rfl ?_
        refine za_cons ?_
        refine ze_name 5 rfl ?_
        refine za_cons ?_
        refine ze_name 12 rfl ?_
        refine za_nil ?_
        refine ⟨rfl, ?_⟩
        refine ⟨h, t, num, rfl, ok, fun r hr1 => tok.keys.mem_iff.mpr (List.mem_map.mpr ⟨r, hr1, rfl⟩), fun p hp => by have := tb p hp; omega, ?_⟩
        rw [show (h.map fun r => PyData.int (cnt num (getT t r.name))) = (h.map fun r => cnt num (getT t r.name)).map .int by rw [List.map_map]; rfl]
        refine zs_cons ?_
        refine zs_if ?_
        refine zt_not ?_
        refine zt_val ?_
        refine ze_call (c_alike.mono (by decide)) ⟨rfl, rfl, rfl, rfl, rfl⟩ hr ?_
        refine za_cons ?_
        refine ze_call (c_p_counts_behind.mono (by decide)) ⟨rfl, rfl, rfl, rfl, rfl⟩ hr ?_
        refine za_cons ?_
        refine ze_name 3 rfl ?_
        refine za_cons ?_
        refine ze_name 6 rfl ?_
        refine za_cons ?_
        refine ze_name 12 rfl ?_
        refine za_cons ?_
        refine ze_name 14 rfl ?_
        refine za_nil ?_
        refine ⟨rfl, ?_⟩
        refine ⟨h, ds, num, _, rfl, ok, by rw [List.length_map], hin, by omega, ?_⟩
        refine za_cons ?_
        refine ze_call (c_at.mono (by decide)) ⟨rfl, rfl, rfl, rfl, rfl⟩ hr ?_
        refine za_cons ?_
        refine ze_name 3 rfl ?_
        refine za_cons ?_
        refine ze_name 8 rfl ?_
        refine za_cons ?_
        refine ze_name 12 rfl ?_
        refine za_nil ?_
        refine ⟨rfl, ?_⟩
        refine ⟨h, kn.map fun a => (a, getT (runT (startT h t) ds) a), num, rfl, ok, fun r hr1 => ?_, fun p hp => ?_, ?_⟩
        · rw [List.map_map]
          exact (List.mem_map.mpr ⟨r.name, pkn.mem_iff.mpr (List.mem_map.mpr ⟨r, hr1, rfl⟩), rfl⟩)
        · obtain ⟨a, ha, rfl⟩ := List.mem_map.mp hp
          have h1 := getT_bd (a := a) (runT_bd (startT_bd (h := h) tb) ds.length ds rfl)
          have h3 : 2 ^ ds.length ≤ 2 ^ 12 := Nat.pow_le_pow_right (by decide) hdl2
          show (getT (runT (startT h t) ds) a).length < 4000000
          omega
        rw [← at_behind (num := num) ok rst hds pkn]
        refine za_nil ?_
        refine ⟨rfl, ?_⟩
        refine ⟨_, rfl, plain_cts (small_run (small_at tb) hdl2 hds) (by rw [runA_len, List.length_zip]; omega), ?_⟩
        refine ⟨_, rfl, ?_⟩
        refine iff_ ?_
        refine zs_nil ?_
        refine zs_nil ?_
        exact ⟨_, _, rfl, rfl⟩
      · obtain ⟨o12b, o14b, rfl, rfl⟩ := hI
        refine zs_cons ?_
        refine zs_if ?_
        refine zt_w ?_
        refine zw_or ?_
        refine zt_not ?_
        refine zt_val ?_
        refine ze_call (c_is_map_right.mono (by decide)) ⟨rfl, rfl, rfl, rfl, rfl⟩ hr ?_
        refine za_cons ?_
        refine ze_name 1 rfl ?_
        refine za_cons ?_
        refine ze_name 3 rfl ?_
        refine za_cons ?_
        refine ze_name 6 rfl ?_
        refine za_cons ?_
        refine ze_name 13 rfl ?_
        refine za_nil ?_
        refine ⟨rfl, ?_⟩
        refine ⟨b4, _, h, ds, _, ns, rfl, rfl, g4, ok, hds, hdl2, hn0, by omega, fun b7 g7 => ?_⟩
        refine ⟨_, rfl, ?_⟩
        refine iff_ ?_
        refine zw_or1 ?_
        refine zt_not ?_
        refine zt_val ?_
        refine ze_call (c_alike.mono (by decide)) ⟨rfl, rfl, rfl, rfl, rfl⟩ hr ?_
        refine za_cons ?_
        refine ze_call (c_p_marks_ofD.mono (by decide)) ⟨rfl, rfl, rfl, rfl, rfl⟩ hr ?_
        refine za_cons ?_
        refine ze_name 6 rfl ?_
        refine za_nil ?_
        refine ⟨rfl, ?_⟩
        refine ⟨ds, rfl, by omega, fun ks2 pwk2 hmk2 => ?_⟩
        obtain rfl : ks = ks2 := rise_eq pwk pwk2 fun k => (hmk k).trans (hmk2 k).symm
        refine za_cons ?_
        refine ze_name 7 rfl ?_
        refine za_nil ?_
        refine ⟨rfl, ?_⟩
        refine ⟨_, rfl, pks, ?_⟩
        refine ⟨_, rfl, ?_⟩
        refine iff_ ?_
        refine zs_nil ?_
        refine zs_cons ?_
        refine zs_if ?_
        refine zt_cmp ?_
        refine zc_neS ?_
        refine zk_repr hr bn.sys bn.repr ?_
        refine ze_lst ?_
        refine za_cons ?_
        refine ze_name 3 rfl ?_
        refine za_cons ?_
        refine ze_name 5 rfl ?_
        refine za_cons ?_
        refine ze_name 6 rfl ?_
        refine za_nil ?_
        refine ⟨[_, _, _], rfl, Nat.le_of_ble_eq_true rfl, ?_⟩
        refine ⟨_, rfl, msh.sw, Nat.le_trans msh.dp (by decide), msh.shown (by decide), ?_⟩
        refine ze_name 9 rfl ?_
        refine ⟨_, _, rfl, rfl, ?_⟩
        refine ⟨_, rfl, ?_⟩
        rw [decide_eq_true rfl]
        refine iff_ ?_
        refine zs_nil ?_
        refine zs_nil ?_
        exact ⟨b7, _, _, _, _, _, _, _, _, _, _, _, _, _, _, rfl, rfl, g7⟩
  · obtain ⟨b1, R, o2, o3, o4, o5, o6, o7, o8, o9, o10, o11, o12, o13, o14, rfl, rfl, g1⟩ := hI
    refine zs_cons ?_
    refine zs_ret ?_
    refine ze_bl ?_
    rfl
end K84

namespace K84
open PySem PySem.Spec PyProof.Rows L2 Z
theorem nd_bag : (n_bag : List Str).Nodup := by decide +kernel
theorem ok_bag {T : Top} (bn : Bn T) {f : Addr} {fd : FuncData} (F : Fun T.K "_law_bag" "_law_bag" s_bag f fd) : FnOk T.P T.w T.K T.mg T.base CX0 1 f fd ["_law_script_here"] (spBag T.K) := by
  have nd := nd_bag
  refine F.ok sc_bag (fun vs H Q E h => by obtain ⟨a, ns, rfl, _⟩ := h; rfl) fun cdv A outer s H vs Q E hr h => ?_
  obtain ⟨a, ns, rfl, hS, hl, hQ⟩ := h
  refine ⟨_, pss_one (ps_ret (pe_lst (pa_cons pe_int (pa_cons pe_int (pa_cons pe_int (pa_cons (pe_lc (own := [("_law_cell", 1)]) (g := gName 1) (tt := tYes) rfl nd (pi_list (pe_slice sl_list (pv 0) po_none (po_some pe_int)))
    (blkOk_by (own := [("_law_cell", 1)]) (N := n_bag) (sc := defScope s_bag) (by decide +kernel)) (fun _ _ _ _ _ => pg_name (i := 1) nd rfl (Or.inl rfl)) (fun _ _ _ _ _ => pts_nil) (fun _ _ _ _ _ => pe_callB call_abs (by rfl) bn.abs bt_abs (pa_cons (pv 1) pa_nil))) pa_nil)))))), ?_⟩
  refine ⟨_, rfl, ?_⟩
  refine ⟨63, rfl, ?_⟩
  refine ⟨a, ns.map V.int, rfl, hS, fun p1 n1 => ?_⟩
  rw [cut63 hl]
  refine ⟨p1, rfl, ⟨_, .of upd_same⟩, fun D nD => ?_⟩
  have ne : D ≠ p1 := fun z => by rw [z, upd_same] at nD; cases nD
  have hD : H D = none := by rw [upd_ne ne] at nD; exact nD
  have sm : ∀ {H' : Hp} {o : HO}, Same H H' → Same H (upd H' D o) := fun {H' o} s b x e => by
    by_cases z : b = D
    · subst z; rw [hD] at e; cases e
    · rw [upd_ne z]; exact s b x e
  refine lc_list (a := p1) (xs := ns.map V.int) (fun i H' => H' p1 = some (.lst (ns.map V.int)) ∧ H' D = some (.lst (((ns.take i).map absI).map V.int)) ∧ Same H H') ⟨?_, upd_same, ?_⟩ (fun i H' _ h => .of h.1) (fun i x H' hx h => ?_) fun H' h => ?_
  · rw [upd_ne (Ne.symm ne), upd_same]
  · refine sm fun b x e => ?_
    by_cases z : b = p1
    · subst z; rw [n1] at e; cases e
    · rw [upd_ne z]; exact e
  · obtain ⟨n, hn2, rfl⟩ := get_map hx
    have hi : i < ns.length := (List.getElem?_eq_some_iff.mp hn2).1
    obtain ⟨h1, h2, h3⟩ := h
    refine ⟨rfl, ?_⟩
    dsimp only [tYes]
    rw [if_pos rfl]
    refine ⟨_, rfl, n, rfl, _, h2, by rw [List.length_map, List.length_map, List.length_take]; unfold sizeLine; omega, ?_, ?_, sm h3⟩
    · rw [upd_ne (Ne.symm ne)]; exact h1
    · rw [upd_same, take_next hn2, List.map_append, List.map_append]; rfl
  · rw [List.length_map, List.take_length] at h
    refine ⟨by show 4 ≤ sizeLine; decide, fun p np => ?_⟩
    have npD : D ≠ p := fun z => by rw [← z, h.2.1] at np; cases np
    exact hQ _ p D (fun b x e => by
      have e2 := h.2.2 b x e
      have : b ≠ p := fun z => by rw [z, np] at e2; cases e2
      rw [upd_ne this]; exact e2) (h.2.2.free np) hD (Ne.symm npD) upd_same (by rw [upd_ne npD]; exact h.2.1)
theorem g_law {T : Top} (bn : Bn T) {fB : Addr} {fdB : FuncData} (FB : Fun T.K "_law_bag" "_law_bag" s_bag fB fdB) (gB : T.mg "_law_bag" = some (.ref fB)) {f : Addr} {fd : FuncData} (F : Fun T.K "law" "law" s_p_law f fd)
    (rest : ∀ (f : Addr) (cdv : Value) (A : Around) (outer : List Env) (s : Shared) (H : Hp) (E : XK) (b0 : Bag), b0.Good → RoomZ 5 (A.deeper (envOfC "law" (defScope s_p_law) s.heap.objs.size f cdv)) →
      ZSs (dcx T "law" s_p_law n_p_law f cdv A outer s H E) ((defBody s_p_law).drop 1) [none, some (.m 0), none, none, none, none, none, none, none, none, none, none, none, none, none] [bagO b0] { nx := fun _ _ => False, rt := fun w _ => w = .d (.bool true) }) :
    FnG T CX0 6 f fd ["_law_script_here"] (spLaw T.K) := by
  have nd := nd_p_law
  have GB := ok_bag bn FB
  have b := FB.binds (ps := ["_law_script_here"]) fun _ _ _ _ _ _ us hl => match us, hl with | [_], _ => rfl
  refine fg_of F sc_p_law (fun vs H Q E h => by obtain ⟨a, ns, rfl, _⟩ := h; rfl) fun cdv A outer s H vs Q E hr h => ?_
  obtain ⟨a, ns, rfl, hS, hl, hQ⟩ := h
  refine w_ss (pss_cons (ps_set (i := 1) nd rfl (.inl rfl) (pe_call (GB.mono (by decide)) hr.r rfl gB FB.kp b .nil pass0 (pa_cons (pv 0) pa_nil))) pss_w) ?_
  refine ⟨_, rfl, a, ns, rfl, hS, hl, fun H' p q s1 n1 n2 ne hp hq => ?_⟩
  refine law_rest (ns := ns) (rest f cdv A outer s H E (bag0 ns) (bag0_good hl) hr) ne hp hq rfl rfl (fun i w e => ?_) hQ
  rcases i with _ | _ | i
  · cases e
  · cases e; exact ⟨rfl, rfl⟩
  · have e2 : (List.replicate 13 (none : Option W))[i]? = some (some w) := e
    rw [List.getElem?_replicate] at e2
    split at e2 <;> cases e2
end K84

namespace K84
open PySem PySem.Spec PyProof.Rows L2 Z
def d_p_marks_of : He.DefD := ⟨("marks_of", none), "marks_of", "marks_of", defArgs s_p_marks_of, defBody s_p_marks_of, defScope s_p_marks_of, [], []⟩
def d_p_after_deed : He.DefD := ⟨("after_deed", none), "after_deed", "after_deed", defArgs s_p_after_deed, defBody s_p_after_deed, defScope s_p_after_deed, [], []⟩
def d_p_counts_behind : He.DefD := ⟨("counts_behind", none), "counts_behind", "counts_behind", defArgs s_p_counts_behind, defBody s_p_counts_behind, defScope s_p_counts_behind, [], []⟩
def d_p_do_deed : He.DefD := ⟨("do_deed", none), "do_deed", "do_deed", defArgs s_p_do_deed, defBody s_p_do_deed, defScope s_p_do_deed, [], []⟩
def d_p_done : He.DefD := ⟨("done", none), "done", "done", defArgs s_p_done, defBody s_p_done, defScope s_p_done, [], []⟩
def d_bag : He.DefD := ⟨("_law_bag", none), "_law_bag", "_law_bag", defArgs s_bag, defBody s_bag, defScope s_bag, [], []⟩
def d_take : He.DefD := ⟨("_law_take", none), "_law_take", "_law_take", defArgs s_take, defBody s_take, defScope s_take, [], []⟩
def d_one : He.DefD := ⟨("_law_one", none), "_law_one", "_law_one", defArgs s_one, defBody s_one, defScope s_one, [], []⟩
def d_mixed : He.DefD := ⟨("_law_mixed", none), "_law_mixed", "_law_mixed", defArgs s_mixed, defBody s_mixed, defScope s_mixed, [], []⟩
def d_alike : He.DefD := ⟨("_law_alike", none), "_law_alike", "_law_alike", defArgs s_alike, defBody s_alike, defScope s_alike, [], []⟩
def d_names : He.DefD := ⟨("_law_names", none), "_law_names", "_law_names", defArgs s_names, defBody s_names, defScope s_names, [], []⟩
def d_sort : He.DefD := ⟨("_law_sort", none), "_law_sort", "_law_sort", defArgs s_sort, defBody s_sort, defScope s_sort, [], []⟩
def d_house : He.DefD := ⟨("_law_house", none), "_law_house", "_law_house", defArgs s_house, defBody s_house, defScope s_house, [], []⟩
def d_numbers : He.DefD := ⟨("_law_numbers", none), "_law_numbers", "_law_numbers", defArgs s_numbers, defBody s_numbers, defScope s_numbers, [], []⟩
def d_size : He.DefD := ⟨("_law_size", none), "_law_size", "_law_size", defArgs s_size, defBody s_size, defScope s_size, [], []⟩
def d_table : He.DefD := ⟨("_law_table", none), "_law_table", "_law_table", defArgs s_table, defBody s_table, defScope s_table, [], []⟩
def d_at : He.DefD := ⟨("_law_at", none), "_law_at", "_law_at", defArgs s_at, defBody s_at, defScope s_at, [], []⟩
def d_within : He.DefD := ⟨("_law_within", none), "_law_within", "_law_within", defArgs s_within, defBody s_within, defScope s_within, [], []⟩
def d_deed : He.DefD := ⟨("_law_deed", none), "_law_deed", "_law_deed", defArgs s_deed, defBody s_deed, defScope s_deed, [], []⟩
def d_script : He.DefD := ⟨("_law_script", none), "_law_script", "_law_script", defArgs s_script, defBody s_script, defScope s_script, [], []⟩
def d_map : He.DefD := ⟨("_law_map", none), "_law_map", "_law_map", defArgs s_map, defBody s_map, defScope s_map, [], []⟩
def d_marks : He.DefD := ⟨("_law_marks", none), "_law_marks", "_law_marks", defArgs s_marks, defBody s_marks, defScope s_marks, [], []⟩
def d_more : He.DefD := ⟨("_law_more", none), "_law_more", "_law_more", defArgs s_more, defBody s_more, defScope s_more, [], []⟩
def d_is_map_right : He.DefD := ⟨("_law_is_map_right", none), "_law_is_map_right", "_law_is_map_right", defArgs s_is_map_right, defBody s_is_map_right, defScope s_is_map_right, [], []⟩
def d_p_law : He.DefD := ⟨("law", none), "law", "law", defArgs s_p_law, defBody s_p_law, defScope s_p_law, [], []⟩
def fn : List He.DefD := [d_p_marks_of, d_p_after_deed, d_p_counts_behind, d_p_do_deed, d_p_done, d_bag, d_take, d_one, d_mixed, d_alike, d_names, d_sort, d_house, d_numbers, d_size, d_table, d_at, d_within, d_deed, d_script, d_map, d_marks, d_more, d_is_map_right, d_p_law]
def fa : List He.Fa := [.glo "marks_of", .glo "after_deed", .glo "counts_behind", .glo "do_deed", .glo "done", .glo "_law_bag", .glo "_law_take", .glo "_law_one", .glo "_law_mixed", .glo "_law_alike", .glo "_law_names", .glo "_law_sort", .glo "_law_house", .glo "_law_numbers", .glo "_law_size", .glo "_law_table", .glo "_law_at", .glo "_law_within", .glo "_law_deed", .glo "_law_script", .glo "_law_map", .glo "_law_marks", .glo "_law_more", .glo "_law_is_map_right", .glo "law", .free "len", .free "abs", .free "min", .free "max", .free "repr", .free "sorted", .free "isinstance", .free "all", .free "any", .free "sum", .free "int", .free "bool", .free "str", .free "list", .free "tuple", .free "dict", .free "set", .free "zip", .free "range", .free "enumerate", .free "reversed"]
abbrev R : PySem.W.OpenRow := PySem.W.OpenLaw.row PySem.Challenge.rw_countsfall_k84_counts_behind_scripts
def loose : List PySem.Str := (["marks_of", "after_deed", "counts_behind", "do_deed", "done", "_law_bag", "_law_take", "_law_one", "_law_mixed", "_law_alike", "_law_names", "_law_sort", "_law_house", "_law_numbers", "_law_size", "_law_table", "_law_at", "_law_within", "_law_deed", "_law_script", "_law_map", "_law_marks", "_law_more", "_law_is_map_right"] : List PySem.Str)
theorem run (w : World) : HandSHeadRun.RunEq R (PySem.W.view R.prog [27]) (hookZ 4 fa fn) (obZ 4 fa fn) 4000 loose w := by
  intro os
  kernel_rfl
theorem facts {P : Program} {w : World} {K : PySem.W.Frag} {h : Heap} {mg : Str → Option Value} {f : Addr} (X : K.In h) (c : He.SaysD fa fn K) (G : h.Ns mainGlobals mg) (hfa : mg ("law" : Str) = some (.ref f)) :
    ∃ (fd : FuncData), (∀ (s : Shared) (u : Value), BindsTo s fd ⟨[u], []⟩ [("_law_script_here", u)]) ∧ ∀ base : Heap, K.In base → base.Ns mainGlobals mg → (∃ o, base.get? sysModules = some o) → FnG ⟨P, w, K, mg, base⟩ CX0 6 f fd ["_law_script_here"] (spLaw K) := by
  obtain ⟨fd_p_marks_of, F_p_marks_of⟩ := c.def_ 0 (d := d_p_marks_of) rfl
  have g_p_marks_of := He.glo_ok X G (c.fact 0 (f := .glo "marks_of") rfl)
  obtain ⟨fd_p_after_deed, F_p_after_deed⟩ := c.def_ 1 (d := d_p_after_deed) rfl
  have g_p_after_deed := He.glo_ok X G (c.fact 1 (f := .glo "after_deed") rfl)
  obtain ⟨fd_p_counts_behind, F_p_counts_behind⟩ := c.def_ 2 (d := d_p_counts_behind) rfl
  have g_p_counts_behind := He.glo_ok X G (c.fact 2 (f := .glo "counts_behind") rfl)
  obtain ⟨fd_p_do_deed, F_p_do_deed⟩ := c.def_ 3 (d := d_p_do_deed) rfl
  have g_p_do_deed := He.glo_ok X G (c.fact 3 (f := .glo "do_deed") rfl)
  obtain ⟨fd_p_done, F_p_done⟩ := c.def_ 4 (d := d_p_done) rfl
  have g_p_done := He.glo_ok X G (c.fact 4 (f := .glo "done") rfl)
  obtain ⟨fd_bag, F_bag⟩ := c.def_ 5 (d := d_bag) rfl
  have g_bag := He.glo_ok X G (c.fact 5 (f := .glo "_law_bag") rfl)
  obtain ⟨fd_take, F_take⟩ := c.def_ 6 (d := d_take) rfl
  have g_take := He.glo_ok X G (c.fact 6 (f := .glo "_law_take") rfl)
  obtain ⟨fd_one, F_one⟩ := c.def_ 7 (d := d_one) rfl
  have g_one := He.glo_ok X G (c.fact 7 (f := .glo "_law_one") rfl)
  obtain ⟨fd_mixed, F_mixed⟩ := c.def_ 8 (d := d_mixed) rfl
  have g_mixed := He.glo_ok X G (c.fact 8 (f := .glo "_law_mixed") rfl)
  obtain ⟨fd_alike, F_alike⟩ := c.def_ 9 (d := d_alike) rfl
  have g_alike := He.glo_ok X G (c.fact 9 (f := .glo "_law_alike") rfl)
  obtain ⟨fd_names, F_names⟩ := c.def_ 10 (d := d_names) rfl
  have g_names := He.glo_ok X G (c.fact 10 (f := .glo "_law_names") rfl)
  obtain ⟨fd_sort, F_sort⟩ := c.def_ 11 (d := d_sort) rfl
  have g_sort := He.glo_ok X G (c.fact 11 (f := .glo "_law_sort") rfl)
  obtain ⟨fd_house, F_house⟩ := c.def_ 12 (d := d_house) rfl
  have g_house := He.glo_ok X G (c.fact 12 (f := .glo "_law_house") rfl)
  obtain ⟨fd_numbers, F_numbers⟩ := c.def_ 13 (d := d_numbers) rfl
  have g_numbers := He.glo_ok X G (c.fact 13 (f := .glo "_law_numbers") rfl)
  obtain ⟨fd_size, F_size⟩ := c.def_ 14 (d := d_size) rfl
  have g_size := He.glo_ok X G (c.fact 14 (f := .glo "_law_size") rfl)
  obtain ⟨fd_table, F_table⟩ := c.def_ 15 (d := d_table) rfl
  have g_table := He.glo_ok X G (c.fact 15 (f := .glo "_law_table") rfl)
  obtain ⟨fd_at, F_at⟩ := c.def_ 16 (d := d_at) rfl
  have g_at := He.glo_ok X G (c.fact 16 (f := .glo "_law_at") rfl)
  obtain ⟨fd_within, F_within⟩ := c.def_ 17 (d := d_within) rfl
  have g_within := He.glo_ok X G (c.fact 17 (f := .glo "_law_within") rfl)
  obtain ⟨fd_deed, F_deed⟩ := c.def_ 18 (d := d_deed) rfl
  have g_deed := He.glo_ok X G (c.fact 18 (f := .glo "_law_deed") rfl)
  obtain ⟨fd_script, F_script⟩ := c.def_ 19 (d := d_script) rfl
  have g_script := He.glo_ok X G (c.fact 19 (f := .glo "_law_script") rfl)
  obtain ⟨fd_map, F_map⟩ := c.def_ 20 (d := d_map) rfl
  have g_map := He.glo_ok X G (c.fact 20 (f := .glo "_law_map") rfl)
  obtain ⟨fd_marks, F_marks⟩ := c.def_ 21 (d := d_marks) rfl
  have g_marks := He.glo_ok X G (c.fact 21 (f := .glo "_law_marks") rfl)
  obtain ⟨fd_more, F_more⟩ := c.def_ 22 (d := d_more) rfl
  have g_more := He.glo_ok X G (c.fact 22 (f := .glo "_law_more") rfl)
  obtain ⟨fd_is_map_right, F_is_map_right⟩ := c.def_ 23 (d := d_is_map_right) rfl
  have g_is_map_right := He.glo_ok X G (c.fact 23 (f := .glo "_law_is_map_right") rfl)
  obtain ⟨fd_p_law, F_p_law⟩ := c.def_ 24 (d := d_p_law) rfl
  have g_p_law := He.glo_ok X G (c.fact 24 (f := .glo "law") rfl)
  have e := hfa.symm.trans g_p_law
  cases e
  have b := FunD.bindsA (ps := ["_law_script_here"]) F_p_law fun _ _ _ _ _ _ us hl => match us, hl with | [_], _ => rfl
  refine ⟨fd_p_law, fun s v => b s [v] rfl, fun base KB GB sys => ?_⟩
  have bn : Bn ⟨P, w, K, mg, base⟩ := ⟨He.free_ok X G (c.fact 25 (f := .free "len") rfl), He.free_ok X G (c.fact 26 (f := .free "abs") rfl), He.free_ok X G (c.fact 27 (f := .free "min") rfl), He.free_ok X G (c.fact 28 (f := .free "max") rfl), He.free_ok X G (c.fact 29 (f := .free "repr") rfl), He.free_ok X G (c.fact 30 (f := .free "sorted") rfl), He.free_ok X G (c.fact 31 (f := .free "isinstance") rfl), He.free_ok X G (c.fact 32 (f := .free "all") rfl), He.free_ok X G (c.fact 33 (f := .free "any") rfl), He.free_ok X G (c.fact 34 (f := .free "sum") rfl), He.free_ok X G (c.fact 35 (f := .free "int") rfl), He.free_ok X G (c.fact 36 (f := .free "bool") rfl), He.free_ok X G (c.fact 37 (f := .free "str") rfl), He.free_ok X G (c.fact 38 (f := .free "list") rfl), He.free_ok X G (c.fact 39 (f := .free "tuple") rfl), He.free_ok X G (c.fact 40 (f := .free "dict") rfl), He.free_ok X G (c.fact 41 (f := .free "set") rfl), He.free_ok X G (c.fact 42 (f := .free "zip") rfl), He.free_ok X G (c.fact 43 (f := .free "range") rfl), He.free_ok X G (c.fact 44 (f := .free "enumerate") rfl), He.free_ok X G (c.fact 45 (f := .free "reversed") rfl), sys⟩
  have a_p_marks_of : DefAt ⟨P, w, K, mg, base⟩ "marks_of" s_p_marks_of := ⟨_, _, funD_fun F_p_marks_of, g_p_marks_of⟩
  have a_p_after_deed : DefAt ⟨P, w, K, mg, base⟩ "after_deed" s_p_after_deed := ⟨_, _, funD_fun F_p_after_deed, g_p_after_deed⟩
  have a_p_counts_behind : DefAt ⟨P, w, K, mg, base⟩ "counts_behind" s_p_counts_behind := ⟨_, _, funD_fun F_p_counts_behind, g_p_counts_behind⟩
  have a_p_do_deed : DefAt ⟨P, w, K, mg, base⟩ "do_deed" s_p_do_deed := ⟨_, _, funD_fun F_p_do_deed, g_p_do_deed⟩
  have a_p_done : DefAt ⟨P, w, K, mg, base⟩ "done" s_p_done := ⟨_, _, funD_fun F_p_done, g_p_done⟩
  have a_take : DefAt ⟨P, w, K, mg, base⟩ "_law_take" s_take := ⟨_, _, funD_fun F_take, g_take⟩
  have a_one : DefAt ⟨P, w, K, mg, base⟩ "_law_one" s_one := ⟨_, _, funD_fun F_one, g_one⟩
  have a_mixed : DefAt ⟨P, w, K, mg, base⟩ "_law_mixed" s_mixed := ⟨_, _, funD_fun F_mixed, g_mixed⟩
  have a_alike : DefAt ⟨P, w, K, mg, base⟩ "_law_alike" s_alike := ⟨_, _, funD_fun F_alike, g_alike⟩
  have a_names : DefAt ⟨P, w, K, mg, base⟩ "_law_names" s_names := ⟨_, _, funD_fun F_names, g_names⟩
  have a_sort : DefAt ⟨P, w, K, mg, base⟩ "_law_sort" s_sort := ⟨_, _, funD_fun F_sort, g_sort⟩
  have a_house : DefAt ⟨P, w, K, mg, base⟩ "_law_house" s_house := ⟨_, _, funD_fun F_house, g_house⟩
  have a_numbers : DefAt ⟨P, w, K, mg, base⟩ "_law_numbers" s_numbers := ⟨_, _, funD_fun F_numbers, g_numbers⟩
  have a_size : DefAt ⟨P, w, K, mg, base⟩ "_law_size" s_size := ⟨_, _, funD_fun F_size, g_size⟩
  have a_table : DefAt ⟨P, w, K, mg, base⟩ "_law_table" s_table := ⟨_, _, funD_fun F_table, g_table⟩
  have a_at : DefAt ⟨P, w, K, mg, base⟩ "_law_at" s_at := ⟨_, _, funD_fun F_at, g_at⟩
  have a_within : DefAt ⟨P, w, K, mg, base⟩ "_law_within" s_within := ⟨_, _, funD_fun F_within, g_within⟩
  have a_deed : DefAt ⟨P, w, K, mg, base⟩ "_law_deed" s_deed := ⟨_, _, funD_fun F_deed, g_deed⟩
  have a_script : DefAt ⟨P, w, K, mg, base⟩ "_law_script" s_script := ⟨_, _, funD_fun F_script, g_script⟩
  have a_map : DefAt ⟨P, w, K, mg, base⟩ "_law_map" s_map := ⟨_, _, funD_fun F_map, g_map⟩
  have a_marks : DefAt ⟨P, w, K, mg, base⟩ "_law_marks" s_marks := ⟨_, _, funD_fun F_marks, g_marks⟩
  have a_more : DefAt ⟨P, w, K, mg, base⟩ "_law_more" s_more := ⟨_, _, funD_fun F_more, g_more⟩
  have a_is_map_right : DefAt ⟨P, w, K, mg, base⟩ "_law_is_map_right" s_is_map_right := ⟨_, _, funD_fun F_is_map_right, g_is_map_right⟩
  have k_take := f_take bn a_take
  have k_one := f_one bn a_one k_take
  have k_sort := f_sort bn a_sort k_take k_one
  have k_mixed := f_mixed bn a_mixed k_take
  have k_names := f_names bn a_names k_mixed
  have k_house := f_house bn a_house k_take k_sort k_names
  have k_numbers := f_numbers bn a_numbers k_take k_one
  have k_size := f_size bn a_size k_take
  have k_table := f_table bn a_table k_one k_mixed k_size
  have k_deed := f_deed bn a_deed k_take k_one k_mixed
  have k_script := f_script bn a_script k_take k_deed
  have k_marks := f_marks bn a_marks
  have k_p_do_deed := f_p_do_deed bn a_p_do_deed
  have k_p_done := f_p_done bn a_p_done k_p_do_deed
  have k_p_marks_ofM := f_p_marks_ofM bn a_p_marks_of
  have k_alike := f_alike bn a_alike
  have k_at := f_at bn a_at
  have k_p_after_deed := f_p_after_deed bn a_p_after_deed
  have k_p_counts_behind := f_p_counts_behind bn a_p_counts_behind k_p_after_deed
  have k_more := f_more bn a_more k_one
  have k_map := f_map bn a_map
  have k_within := f_within bn a_within
  have k_is_map_right := f_is_map_right bn a_is_map_right k_one k_more k_p_counts_behind k_map k_alike k_within
  have k_p_marks_of := f_p_marks_of bn a_p_marks_of
  refine g_law bn (funD_fun F_bag) g_bag (funD_fun F_p_law) fun f cdv A outer s H E b0 g0 hr => b_p_law bn (k_house.mono (by decide)) (k_numbers.mono (by decide)) (k_table.mono (by decide)) (k_one.mono (by decide)) (k_script.mono (by decide)) (k_marks.mono (by decide)) (k_p_done.mono (by decide)) (k_p_marks_ofM.mono (by decide)) (k_alike.mono (by decide)) (k_at.mono (by decide)) (k_p_counts_behind.mono (by decide)) (k_is_map_right.mono (by decide)) (k_p_marks_of.mono (by decide)) f cdv A outer s H E b0 g0 hr
end K84
open PySem PySem.W PySem.Calls PyProof.Rows
theorem PySem.Challenge.cw_countsfall_k84_counts_behind_scripts_holds : PySem.Challenge.rw_countsfall_k84_counts_behind_scripts.Holds := by
  w_on; o_law
  refine HandSHeadRun.head_any (r := OpenLaw.row PySem.Challenge.rw_countsfall_k84_counts_behind_scripts) (q := view (OpenLaw.row PySem.Challenge.rw_countsfall_k84_counts_behind_scripts).prog [27]) (H := Z.hookZ 4 K84.fa K84.fn) (ob := Z.obZ 4 K84.fa K84.fn) (M := 4000) (loose := K84.loose) (d := HandSHeadRun.topDef (OpenLaw.row PySem.Challenge.rw_countsfall_k84_counts_behind_scripts).prog 27) (kwd := []) Z.obZ_eq
    (by kernel_rfl) (fun s => by kernel_rfl) K84.run (by kernel_rfl) (by kernel_rfl) (by kernel_rfl) (by rfl) (by first | assumption | decide +kernel) (by decide +kernel) ⟨rfl, rfl, rfl, rfl, rfl, by decide +kernel⟩ ?hw ?hc
  case hw => w_witness2
  case hc =>
    refine Z.walkG (l := PySem.Challenge.rw_countsfall_k84_counts_behind_scripts) (n := 63) (k := 6) (x := "_law_script_here") rfl (by decide) (by kernel_rfl) (Z.room0 ⟨rfl, by decide, by decide⟩) ?F
    intro w K mg f h KX c G hmg0
    have hmg : mg ("law" : PySem.Str) = some (.ref f) := by
      have e : (HandSHeadRun.topDef (OpenLaw.row PySem.Challenge.rw_countsfall_k84_counts_behind_scripts).prog 27).name = ("law" : PySem.Str) := by kernel_rfl
      rw [← e]
      exact hmg0
    obtain ⟨fd, hb, hF⟩ := K84.facts (P := (PySem.Challenge.rw_countsfall_k84_counts_behind_scripts).prog) (w := w) KX c G hmg
    exact ⟨fd, Z.spLaw K, hb, fun H a ns hl hS => ⟨a, ns, rfl, hS, hl, fun _ => rfl⟩, hF⟩
