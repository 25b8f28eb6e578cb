import PyProof.Rows.All
import Wide.All
import OpenK.AllK
import Wide.FinOn
import HandS.ForMost
import HandS.Flow
import HandS.Style
import HandS.Wide
import HandS.TupAny
import HandS.TupLe
import HandS.Small
import HandS.Deep
import HandS.SortInts
import HandS.More
import HandS.DictEq
import HandS.RaiseMore
import HandS.IsInst
import HandS.Comp
import HandS.DictComp
import HandS.Zip
import HandS.Conv
import HandS.HeadHook2
import HandS.Star
import HandS.SetFor
import HandS.SetBool
import HandS.Strs
import HandS.Zip0
import KE.KDictZip
import PyProof.P3Eq
import HandS.Ends
import HandS.HeadEnd
import HandS.HeadHook1
import HandS.Head0
import HandS.Head1
import HandS.Head2
import HandS.Exc
import HandS.ExcOwn
import HandS.TupMul
import HandS.WordsExc
import PySem.Challenge.RW_countsfall_k83_deeds_done
set_option Elab.async false
set_option linter.all false
set_option maxRecDepth 100000
set_option maxHeartbeats 0
/-! Z1: the layer of plain data. What a piece of code does to data (PyData) and to some mutable cells, no address in sight. -/
namespace Z
open PySem PySem.Spec PyProof.Rows L2
abbrev St := L2.St

/-! ### semantic readings: the weakest ones -/
def wE (X : Cx) (e : Expr) : TE := fun σ H Q => ∀ pins s, Inv X pins σ H s → wpAny (model X.prog X.w) X.A (eval e X.env) (EP X pins σ Q) X.xe s
def wT (X : Cx) (e : Expr) : TT := fun σ H Q => ∀ pins s, Inv X pins σ H s → wpAny (model X.prog X.w) X.A (isTrue e X.env (eval e X.env)) (TP X pins σ Q) X.xe s
def wA (X : Cx) (es : List Expr) : TA := fun σ H Q => ∀ pos pins s, Inv X pins σ H s → wpAny (model X.prog X.w) X.A (spliced (backTo pos (starEach es X.env))) (AP X pins σ Q) X.xe s
def wS (X : Cx) (st : Stmt) : TS := fun D σ H => ∀ pins s, Inv X pins σ H s → wpAny (model X.prog X.w) X.A (exec st X.env) (SP X pins D) X.xe s
def wSs (X : Cx) (st : List Stmt) : TS := fun D σ H => ∀ pins s, Inv X pins σ H s → wpAny (model X.prog X.w) X.A (execs st X.env) (SP X pins D) X.xe s
def wG (X : Cx) (tg : Expr) : TG := fun v σ H Q => ∀ pins s u, Inv X pins σ H s → RelV v u →
  wpAny (model X.prog X.w) X.A (assign tg X.env u) (fun _ s' => ∃ σ' H', Inv X pins σ' H' s' ∧ Q σ' H') X.xe s
def wI (X : Cx) (tg it : Expr) : TI := fun σ H R => ∀ pins s, Inv X pins σ H s →
  wpAny (model X.prog X.w) X.A (eval it X.env) (fun v s1 => wpAny (model X.prog X.w) X.A (pyIter v) (PIE X pins σ tg R) X.xe s1) X.xe s
section
variable {X : Cx} {e : Expr} {es : List Expr} {st : Stmt} {sts : List Stmt}
theorem pe_w : PE X e (wE X e) := ⟨fun pins s _ _ _ I h => h pins s I⟩
theorem pt_w : PT X e (wT X e) := ⟨fun pins s _ _ _ I h => h pins s I⟩
theorem pa_w : PA X es (wA X es) := ⟨fun pos pins s _ _ _ I h => h pos pins s I⟩
theorem ps_w : PS X st (wS X st) := ⟨fun pins s _ _ _ I h => h pins s I⟩
theorem pss_w : PSs X sts (wSs X sts) := ⟨fun pins s _ _ _ I h => h pins s I⟩
theorem pg_w : PG X e (wG X e) := ⟨fun pins s _ _ _ u _ I r h => h pins s u I r⟩
theorem pi_w {it : Expr} : PI X e it (wI X e it) := ⟨fun pins s _ _ _ I h => h pins s I⟩
theorem w_e {t : TE} {σ : St} {H : Hp} {Q : VK} (h : PE X e t) (q : t σ H Q) : wE X e σ H Q := fun pins s I => h.run pins s σ H Q I q
theorem w_t {t : TT} {σ : St} {H : Hp} {Q : Bool → Hp → Prop} (h : PT X e t) (q : t σ H Q) : wT X e σ H Q := fun pins s I => h.run pins s σ H Q I q
theorem w_a {t : TA} {σ : St} {H : Hp} {Q : List V → Hp → Prop} (h : PA X es t) (q : t σ H Q) : wA X es σ H Q := fun pos pins s I => h.run pos pins s σ H Q I q
theorem w_s {t : TS} {σ : St} {H : Hp} {D : Ends} (h : PS X st t) (q : t D σ H) : wS X st D σ H := fun pins s I => h.run pins s σ H D I q
theorem w_ss {t : TS} {σ : St} {H : Hp} {D : Ends} (h : PSs X sts t) (q : t D σ H) : wSs X sts D σ H := fun pins s I => h.run pins s σ H D I q
theorem w_g {t : TG} {v : V} {σ : St} {H : Hp} {Q : St → Hp → Prop} (h : PG X e t) (q : t v σ H Q) : wG X e v σ H Q := fun pins s u I r => h.run pins s σ H v u Q I r q
theorem w_i {it : Expr} {t : TI} {σ : St} {H : Hp} {R : It → Hp → Prop} (h : PI X e it t) (q : t σ H R) : wI X e it σ H R := fun pins s I => h.run pins s σ H R I q
theorem wE.mono {σ : St} {H : Hp} {Q Q' : VK} (h : wE X e σ H Q) (k : ∀ v H', Q v H' → Q' v H') : wE X e σ H Q' := fun pins s I =>
  thn (h pins s I) fun _ _ ⟨v, H', I', r, q⟩ => ⟨v, H', I', r, k v H' q⟩
theorem wT.mono {σ : St} {H : Hp} {Q Q' : Bool → Hp → Prop} (h : wT X e σ H Q) (k : ∀ b H', Q b H' → Q' b H') : wT X e σ H Q' := fun pins s I =>
  thn (h pins s I) fun _ _ ⟨H', I', q⟩ => ⟨H', I', k _ H' q⟩
theorem wA.mono {σ : St} {H : Hp} {Q Q' : List V → Hp → Prop} (h : wA X es σ H Q) (k : ∀ v H', Q v H' → Q' v H') : wA X es σ H Q' := fun pos pins s I =>
  thn (h pos pins s I) fun _ _ ⟨v, H', I', r, q⟩ => ⟨v, H', I', r, k v H' q⟩
theorem wG.mono {v : V} {σ : St} {H : Hp} {Q Q' : St → Hp → Prop} (h : wG X e v σ H Q) (k : ∀ σ' H', Q σ' H' → Q' σ' H') : wG X e v σ H Q' := fun pins s u I r =>
  thn (h pins s u I r) fun _ _ ⟨σ', H', I', q⟩ => ⟨σ', H', I', k σ' H' q⟩
theorem wI.mono {it : Expr} {σ : St} {H : Hp} {R R' : It → Hp → Prop} (h : wI X e it σ H R) (k : ∀ J H', R J H' → R' J H') : wI X e it σ H R' := fun pins s I =>
  thn (h pins s I) fun _ _ q => thn q fun _ _ ⟨a, fp, tn, J, H', h1, h2, h3, h4, h5, h6⟩ => ⟨a, fp, tn, J, H', h1, h2, h3, h4, h5, k J H' h6⟩
structure Ends.Le (D D' : Ends) : Prop where
  nx : ∀ σ H, D.nx σ H → D'.nx σ H
  rt : ∀ v H, D.rt v H → D'.rt v H
  bk : ∀ σ H, D.bk σ H → D'.bk σ H
  ct : ∀ σ H, D.ct σ H → D'.ct σ H
theorem SP.mono {pins : List (Addr × Obj)} {D D' : Ends} {f : Flow} {s : Shared} (h : SP X pins D f s) (k : Ends.Le D D') : SP X pins D' f s := by
  cases f with
  | next => obtain ⟨a, b, I, q⟩ := h; exact ⟨a, b, I, k.nx _ _ q⟩
  | brk => obtain ⟨a, b, I, q⟩ := h; exact ⟨a, b, I, k.bk _ _ q⟩
  | cont => obtain ⟨a, b, I, q⟩ := h; exact ⟨a, b, I, k.ct _ _ q⟩
  | ret u => obtain ⟨v, a, b, I, r, q⟩ := h; exact ⟨v, a, b, I, r, k.rt _ _ q⟩
theorem wS.mono {σ : St} {H : Hp} {D D' : Ends} (h : wS X st D σ H) (k : Ends.Le D D') : wS X st D' σ H := fun pins s I => thn (h pins s I) fun _ _ q => SP.mono q k
theorem wSs.mono {σ : St} {H : Hp} {D D' : Ends} (h : wSs X sts D σ H) (k : Ends.Le D D') : wSs X sts D' σ H := fun pins s I => thn (h pins s I) fun _ _ q => SP.mono q k
end

/-! ### data in a region -/
def keyD : Key → PyData
  | .inl i => .int i
  | .inr x => .str x
mutual
/-- the value v is the data d, all of it in the region F -/
inductive At (F : Hp) : V → PyData → Prop
  | non : At F .non .none
  | bl (b : Bool) : At F (.bl b) (.bool b)
  | int (i : Int) : At F (.int i) (.int i)
  | str (x : Str) : At F (.str x) (.str x)
  | lst {a : Addr} {vs : List V} {ds : List PyData} : F a = some (.lst vs) → AtAll F vs ds → At F (.ref a) (.list ds)
  | tup {a : Addr} {vs : List V} {ds : List PyData} : F a = some (.tup vs) → AtAll F vs ds → At F (.ref a) (.tuple ds)
  | dic {a : Addr} {kvs : List (Key × V)} {kds : List (PyData × PyData)} : F a = some (.dK kvs) → AtKv F kvs kds → At F (.ref a) (.dict kds)
inductive AtAll (F : Hp) : List V → List PyData → Prop
  | nil : AtAll F [] []
  | cons {v : V} {vs : List V} {d : PyData} {ds : List PyData} : At F v d → AtAll F vs ds → AtAll F (v :: vs) (d :: ds)
inductive AtKv (F : Hp) : List (Key × V) → List (PyData × PyData) → Prop
  | nil : AtKv F [] []
  | cons {k : Key} {v : V} {vs : List (Key × V)} {d : PyData} {ds : List (PyData × PyData)} : At F v d → AtKv F vs ds → AtKv F ((k, v) :: vs) ((keyD k, d) :: ds)
end
mutual
theorem At.up {F F' : Hp} (s : Same F F') : ∀ {v : V} {d : PyData}, At F v d → At F' v d
  | _, _, .non => .non
  | _, _, .bl b => .bl b
  | _, _, .int i => .int i
  | _, _, .str x => .str x
  | _, _, .lst h a => .lst (s _ _ h) (a.up s)
  | _, _, .tup h a => .tup (s _ _ h) (a.up s)
  | _, _, .dic h a => .dic (s _ _ h) (a.up s)
theorem AtAll.up {F F' : Hp} (s : Same F F') : ∀ {v : List V} {d : List PyData}, AtAll F v d → AtAll F' v d
  | _, _, .nil => .nil
  | _, _, .cons a b => .cons (a.up s) (b.up s)
theorem AtKv.up {F F' : Hp} (s : Same F F') : ∀ {v : List (Key × V)} {d : List (PyData × PyData)}, AtKv F v d → AtKv F' v d
  | _, _, .nil => .nil
  | _, _, .cons a b => .cons (a.up s) (b.up s)
end
theorem AtAll.len {F : Hp} : ∀ {v : List V} {d : List PyData}, AtAll F v d → v.length = d.length
  | _, _, .nil => rfl
  | _, _, .cons _ b => congrArg (· + 1) b.len
theorem AtAll.get {F : Hp} : ∀ {v : List V} {d : List PyData} {i : Nat} {x : PyData}, AtAll F v d → d[i]? = some x → ∃ y, v[i]? = some y ∧ At F y x
  | _, _, _, _, .nil, h => by simp at h
  | _, _, 0, _, .cons a _, h => by simp at h; subst h; exact ⟨_, rfl, a⟩
  | _, _, i + 1, _, .cons _ b, h => by
    obtain ⟨y, e, r⟩ := b.get (i := i) (by simpa using h)
    exact ⟨y, by simpa using e, r⟩
theorem AtAll.get' {F : Hp} : ∀ {v : List V} {d : List PyData} {i : Nat} {y : V}, AtAll F v d → v[i]? = some y → ∃ x, d[i]? = some x ∧ At F y x
  | _, _, _, _, .nil, h => by simp at h
  | _, _, 0, _, .cons a _, h => by simp at h; subst h; exact ⟨_, rfl, a⟩
  | _, _, i + 1, _, .cons _ b, h => by
    obtain ⟨y, e, r⟩ := b.get' (i := i) (by simpa using h)
    exact ⟨y, by simpa using e, r⟩
theorem AtAll.app {F : Hp} : ∀ {v v' : List V} {d d' : List PyData}, AtAll F v d → AtAll F v' d' → AtAll F (v ++ v') (d ++ d')
  | _, _, _, _, .nil, h => h
  | _, _, _, _, .cons a b, h => .cons a (b.app h)
theorem AtAll.take {F : Hp} : ∀ {v : List V} {d : List PyData} (n : Nat), AtAll F v d → AtAll F (v.take n) (d.take n)
  | _, _, 0, _ => .nil
  | _, _, _ + 1, .nil => .nil
  | _, _, n + 1, .cons a b => .cons a (b.take n)
theorem AtAll.drop {F : Hp} : ∀ {v : List V} {d : List PyData} (n : Nat), AtAll F v d → AtAll F (v.drop n) (d.drop n)
  | _, _, 0, h => h
  | _, _, _ + 1, .nil => .nil
  | _, _, n + 1, .cons _ b => b.drop n
theorem At.non_ {F : Hp} {v : V} (h : At F v .none) : v = .non := by cases h; rfl
theorem At.bl_ {F : Hp} {v : V} {b : Bool} (h : At F v (.bool b)) : v = .bl b := by cases h; rfl
theorem At.int_ {F : Hp} {v : V} {i : Int} (h : At F v (.int i)) : v = .int i := by cases h; rfl
theorem At.str_ {F : Hp} {v : V} {i : Str} (h : At F v (.str i)) : v = .str i := by cases h; rfl
theorem At.lst_ {F : Hp} {v : V} {ds : List PyData} (h : At F v (.list ds)) : ∃ a vs, v = .ref a ∧ F a = some (.lst vs) ∧ AtAll F vs ds := by cases h with | lst h a => exact ⟨_, _, rfl, h, a⟩
theorem At.tup_ {F : Hp} {v : V} {ds : List PyData} (h : At F v (.tuple ds)) : ∃ a vs, v = .ref a ∧ F a = some (.tup vs) ∧ AtAll F vs ds := by cases h with | tup h a => exact ⟨_, _, rfl, h, a⟩
theorem At.dic_ {F : Hp} {v : V} {ds : List (PyData × PyData)} (h : At F v (.dict ds)) : ∃ a vs, v = .ref a ∧ F a = some (.dK vs) ∧ AtKv F vs ds := by cases h with | dic h a => exact ⟨_, _, rfl, h, a⟩
theorem AtAll.ints {F : Hp} : ∀ {v : List V} {ns : List Int}, AtAll F v (ns.map .int) → v = ns.map V.int
  | _, [], h => by cases h; rfl
  | _, n :: ns, h => by cases h with | cons a b => rw [a.int_, b.ints]; rfl
theorem AtAll.of_ints {F : Hp} : ∀ {ns : List Int}, AtAll F (ns.map V.int) (ns.map .int)
  | [] => .nil
  | n :: ns => .cons (.int n) AtAll.of_ints
theorem AtAll.strs {F : Hp} : ∀ {v : List V} {ns : List Str}, AtAll F v (ns.map .str) → v = ns.map V.str
  | _, [], h => by cases h; rfl
  | _, n :: ns, h => by cases h with | cons a b => rw [a.str_, b.strs]; rfl
theorem AtAll.of_strs {F : Hp} : ∀ {ns : List Str}, AtAll F (ns.map V.str) (ns.map .str)
  | [] => .nil
  | n :: ns => .cons (.str n) AtAll.of_strs

/-! ### mutable cells -/
/-- what a slot holds: data, or the k-th mutable cell -/
inductive W where
  | d (x : PyData)
  | m (k : Nat)
/-- a mutable cell: given up, a list, a dict -/
inductive MO where
  | gone
  | lst (ws : List W)
  | dic (kvs : List (Key × W))
  | dil (kvs : List (Key × W))
abbrev MS := List MO
abbrev GS := List (Option W)
def RW (F : Hp) (ι : List Addr) : V → W → Prop
  | v, .d x => At F v x
  | v, .m k => ∃ a, ι[k]? = some a ∧ v = .ref a
theorem RW.m {F : Hp} {ι : List Addr} {k : Nat} {a : Addr} (h : ι[k]? = some a) : RW F ι (.ref a) (.m k) := ⟨a, h, rfl⟩
abbrev RWs (F : Hp) (ι : List Addr) : List V → List W → Prop := Paired (RW F ι)
abbrev RKs (F : Hp) (ι : List Addr) : List (Key × V) → List (Key × W) → Prop := Paired fun p q => p.1 = q.1 ∧ RW F ι p.2 q.2
def MOk (F : Hp) (ι : List Addr) : MO → HO → Prop
  | .gone, _ => True
  | .lst ws, o => ∃ vs, o = .lst vs ∧ RWs F ι vs ws
  | .dic kws, o => ∃ kvs, o = .dK kvs ∧ RKs F ι kvs kws
  | .dil kws, o => ∃ od kvs, o = .frz od (.dK kvs) ∧ RKs F ι kvs kws
/-- the region F and the cells M (at ι) stand in H -/
structure Rep (F H : Hp) (ι : List Addr) (M : MS) : Prop where
  sub : Same F H
  len : ι.length = M.length
  nd : ι.Nodup
  tr : ∀ a ∈ ι, ∃ o, H a = some o
  at_ : ∀ (k : Nat) (a : Addr) (mo : MO), ι[k]? = some a → M[k]? = some mo → mo = .gone ∨ (F a = none ∧ ∃ o, H a = some o ∧ MOk F ι mo o)
/-- what may have changed: the region and the cells have grown, all else but the cells stands -/
structure Ext (F : Hp) (ι : List Addr) (H F' : Hp) (ι' : List Addr) (H' : Hp) : Prop where
  same : Same F F'
  pre : ∃ r, ι' = ι ++ r
  kp : ∀ a o, H a = some o → a ∉ ι → H' a = some o
  fr : ∀ a ∈ ι', a ∉ ι → H a = none
  nw : ∀ a o, F' a = some o → F a = none → H a = none ∨ a ∈ ι
  fz : ∀ a od u, H a = some (.frz od u) → H' a = some (.frz od u)
theorem Ext.refl (F : Hp) (ι : List Addr) (H : Hp) : Ext F ι H F ι H := ⟨Same.refl F, ⟨[], by simp⟩, fun _ _ h _ => h, fun _ h n => absurd h n, fun a o e n => (by rw [n] at e; cases e), fun _ _ _ h => h⟩
theorem Ext.trans {F F1 F2 H H1 H2 : Hp} {ι ι1 ι2 : List Addr} (x : Ext F ι H F1 ι1 H1) (y : Ext F1 ι1 H1 F2 ι2 H2) : Ext F ι H F2 ι2 H2 := by
  have back : ∀ a, H1 a = none → a ∉ ι → H a = none := fun a q n => by
    cases e : H a with
    | none => rfl
    | some o =>
      rw [x.kp a o e n] at q; cases q
  refine ⟨x.same.trans y.same, ?_, fun a o h n => ?_, fun a h n => ?_, fun a o e n => ?_, fun a od u h => y.fz a od u (x.fz a od u h)⟩
  · obtain ⟨r, rfl⟩ := x.pre
    obtain ⟨r', rfl⟩ := y.pre
    exact ⟨r ++ r', by rw [List.append_assoc]⟩
  · have n1 : a ∉ ι1 := fun z => by
      have := x.fr a z n
      rw [h] at this; cases this
    exact y.kp a o (x.kp a o h n) n1
  · by_cases z : a ∈ ι1
    · exact x.fr a z n
    · exact back a (y.fr a h z) n
  · by_cases m : a ∈ ι
    · exact .inr m
    · refine .inl ?_
      cases q : F1 a with
      | some u => exact (x.nw a u q n).resolve_right m
      | none =>
        rcases y.nw a o e q with z | z
        · exact back a z m
        · exact x.fr a z m
theorem RW.up {F F' : Hp} {ι ι' : List Addr} (s : Same F F') (p : ∃ r, ι' = ι ++ r) : ∀ {v : V} {w : W}, RW F ι v w → RW F' ι' v w
  | v, .d x, h => At.up s h
  | v, .m k, ⟨a, h, e⟩ => by
    obtain ⟨r, rfl⟩ := p
    exact ⟨a, by rw [List.getElem?_append_left (List.getElem?_eq_some_iff.mp h).1]; exact h, e⟩
theorem Ext.rw {F F1 H H1 : Hp} {ι ι1 : List Addr} (x : Ext F ι H F1 ι1 H1) {v : V} {w : W} (h : RW F ι v w) : RW F1 ι1 v w := h.up x.same x.pre
theorem Ext.rws {F F1 H H1 : Hp} {ι ι1 : List Addr} (x : Ext F ι H F1 ι1 H1) : ∀ {vs : List V} {ws : List W}, RWs F ι vs ws → RWs F1 ι1 vs ws := fun h => Paired.mapP h fun _ _ r => x.rw r
structure Slots (F : Hp) (ι : List Addr) (σ : St) (Γ : GS) : Prop where
  len : σ.length = Γ.length
  get : ∀ (i : Nat) (w : W), Γ[i]? = some (some w) → ∃ v, σ[i]? = some (some v) ∧ RW F ι v w
theorem Slots.up {F F' : Hp} {ι ι' : List Addr} {σ : St} {Γ : GS} (h : Slots F ι σ Γ) (s : Same F F') (p : ∃ r, ι' = ι ++ r) : Slots F' ι' σ Γ :=
  ⟨h.len, fun i w e => let ⟨v, e', r⟩ := h.get i w e; ⟨v, e', r.up s p⟩⟩
theorem Ext.slots {F F1 H H1 : Hp} {ι ι1 : List Addr} (x : Ext F ι H F1 ι1 H1) {σ : St} {Γ : GS} (h : Slots F ι σ Γ) : Slots F1 ι1 σ Γ := h.up x.same x.pre
theorem Slots.set {F : Hp} {ι : List Addr} {σ : St} {Γ : GS} (h : Slots F ι σ Γ) (i : Nat) {v : V} {w : W} (r : RW F ι v w) : Slots F ι (σ.set i (some v)) (Γ.set i (some w)) := by
  refine ⟨by simp [h.len], fun j u e => ?_⟩
  by_cases hj : i = j
  · subst hj
    by_cases hl : i < Γ.length
    · rw [List.getElem?_set_self hl] at e
      cases e
      exact ⟨v, by rw [List.getElem?_set_self (by rw [h.len]; exact hl)], r⟩
    · rw [List.getElem?_eq_none (by simpa using hl)] at e; cases e
  · rw [List.getElem?_set_ne hj] at e
    obtain ⟨v', e', r'⟩ := h.get j u e
    exact ⟨v', by rw [List.getElem?_set_ne hj]; exact e', r'⟩

/-! ### ends -/
def Post (F : Hp) (ι : List Addr) (H : Hp) (Φ : W → MS → Prop) : VK := fun v H' => ∃ F' ι' M' w, Ext F ι H F' ι' H' ∧ Rep F' H' ι' M' ∧ RW F' ι' v w ∧ Φ w M'
def PostT (F : Hp) (ι : List Addr) (H : Hp) (Φ : Bool → MS → Prop) : Bool → Hp → Prop := fun b H' => ∃ F' ι' M', Ext F ι H F' ι' H' ∧ Rep F' H' ι' M' ∧ Φ b M'
def PostA (F : Hp) (ι : List Addr) (H : Hp) (Φ : List W → MS → Prop) : List V → Hp → Prop := fun vs H' => ∃ F' ι' M' ws, Ext F ι H F' ι' H' ∧ Rep F' H' ι' M' ∧ RWs F' ι' vs ws ∧ Φ ws M'
def PostG (F : Hp) (ι : List Addr) (H : Hp) (Φ : GS → MS → Prop) : St → Hp → Prop := fun σ' H' => ∃ F' ι' M' Γ', Ext F ι H F' ι' H' ∧ Rep F' H' ι' M' ∧ Slots F' ι' σ' Γ' ∧ Φ Γ' M'
theorem Post.ret {F : Hp} {ι : List Addr} {H : Hp} {M : MS} {Φ : W → MS → Prop} {v : V} {w : W} (R : Rep F H ι M) (r : RW F ι v w) (h : Φ w M) : Post F ι H Φ v H := ⟨F, ι, M, w, Ext.refl F ι H, R, r, h⟩
theorem Post.dat {F : Hp} {ι : List Addr} {H : Hp} {M : MS} {Φ : W → MS → Prop} {v : V} {x : PyData} (R : Rep F H ι M) (r : At F v x) (h : Φ (.d x) M) : Post F ι H Φ v H := ⟨F, ι, M, .d x, Ext.refl F ι H, R, r, h⟩
theorem Post.ext {F F1 H H1 H2 : Hp} {ι ι1 : List Addr} {Φ : W → MS → Prop} {v : V} (x : Ext F ι H F1 ι1 H1) (p : Post F1 ι1 H1 Φ v H2) : Post F ι H Φ v H2 := by
  obtain ⟨F', ι', M', w, e, R, r, h⟩ := p
  exact ⟨F', ι', M', w, x.trans e, R, r, h⟩
theorem PostT.ext {F F1 H H1 H2 : Hp} {ι ι1 : List Addr} {Φ : Bool → MS → Prop} {v : Bool} (x : Ext F ι H F1 ι1 H1) (p : PostT F1 ι1 H1 Φ v H2) : PostT F ι H Φ v H2 := by
  obtain ⟨F', ι', M', e, R, h⟩ := p
  exact ⟨F', ι', M', x.trans e, R, h⟩
theorem PostA.ext {F F1 H H1 H2 : Hp} {ι ι1 : List Addr} {Φ : List W → MS → Prop} {v : List V} (x : Ext F ι H F1 ι1 H1) (p : PostA F1 ι1 H1 Φ v H2) : PostA F ι H Φ v H2 := by
  obtain ⟨F', ι', M', w, e, R, r, h⟩ := p
  exact ⟨F', ι', M', w, x.trans e, R, r, h⟩
theorem PostG.ext {F F1 H H1 H2 : Hp} {ι ι1 : List Addr} {Φ : GS → MS → Prop} {v : St} (x : Ext F ι H F1 ι1 H1) (p : PostG F1 ι1 H1 Φ v H2) : PostG F ι H Φ v H2 := by
  obtain ⟨F', ι', M', w, e, R, r, h⟩ := p
  exact ⟨F', ι', M', w, x.trans e, R, r, h⟩
/-- a new object is laid into the region -/
theorem Rep.lay {F H : Hp} {ι : List Addr} {M : MS} (R : Rep F H ι M) {p : Addr} {o : HO} (n : H p = none) : Ext F ι H (upd F p o) ι (upd H p o) ∧ Rep (upd F p o) (upd H p o) ι M := by
  have nF : F p = none := R.sub.free n
  have nι : p ∉ ι := fun z => by
    obtain ⟨o', e⟩ := R.tr p z
    rw [n] at e; cases e
  have sF : Same F (upd F p o) := fun b x e => by
    rw [upd_ne (ne_of_none e nF)]; exact e
  refine ⟨⟨sF, ⟨[], by simp⟩, fun a x e _ => by rw [upd_ne (ne_of_none e n)]; exact e, fun a h k => absurd h k, fun a x e k => .inl (by
    by_cases z : a = p
    · rw [z]; exact n
    · rw [upd_ne z, k] at e; cases e), fun a od u e => by rw [upd_ne (ne_of_none e n)]; exact e⟩, ?_, R.len, R.nd, fun a h => ?_, fun k a mo h1 h2 => ?_⟩
  · intro b x e
    by_cases hb : b = p
    · subst hb; rw [upd_same] at e ⊢; exact e
    · rw [upd_ne hb] at e ⊢; exact R.sub b x e
  · obtain ⟨x, e⟩ := R.tr a h
    exact ⟨x, by rw [upd_ne (ne_of_none e n)]; exact e⟩
  · rcases R.at_ k a mo h1 h2 with z | ⟨z1, x, z2, z3⟩
    · exact .inl z
    · have na : a ≠ p := ne_of_none z2 n
      refine .inr ⟨by rw [upd_ne na]; exact z1, x, by rw [upd_ne na]; exact z2, ?_⟩
      cases mo with
      | gone => trivial
      | lst ws => obtain ⟨vs, e, r⟩ := z3; exact ⟨vs, e, Paired.mapP r fun _ _ q => q.up sF ⟨[], by simp⟩⟩
      | dic ws => obtain ⟨vs, e, r⟩ := z3; exact ⟨vs, e, Paired.mapP r fun _ _ q => ⟨q.1, q.2.up sF ⟨[], by simp⟩⟩⟩
      | dil ws => obtain ⟨od, vs, e, r⟩ := z3; exact ⟨od, vs, e, Paired.mapP r fun _ _ q => ⟨q.1, q.2.up sF ⟨[], by simp⟩⟩⟩
theorem MOk.up {F F' : Hp} {ι ι' : List Addr} (s : Same F F') (p : ∃ r, ι' = ι ++ r) {mo : MO} {o : HO} (h : MOk F ι mo o) : MOk F' ι' mo o := by
  cases mo with
  | gone => trivial
  | lst ws => obtain ⟨vs, e, r⟩ := h; exact ⟨vs, e, Paired.mapP r fun _ _ q => q.up s p⟩
  | dic ws => obtain ⟨vs, e, r⟩ := h; exact ⟨vs, e, Paired.mapP r fun _ _ q => ⟨q.1, q.2.up s p⟩⟩
  | dil ws => obtain ⟨od, vs, e, r⟩ := h; exact ⟨od, vs, e, Paired.mapP r fun _ _ q => ⟨q.1, q.2.up s p⟩⟩
/-- a new object becomes a cell -/
theorem Rep.new {F H : Hp} {ι : List Addr} {M : MS} (R : Rep F H ι M) {p : Addr} {o : HO} {mo : MO} (n : H p = none) (h : MOk F ι mo o) : Ext F ι H F (ι ++ [p]) (upd H p o) ∧ Rep F (upd H p o) (ι ++ [p]) (M ++ [mo]) := by
  have nF : F p = none := R.sub.free n
  have nι : p ∉ ι := fun z => by
    obtain ⟨o', e⟩ := R.tr p z
    rw [n] at e; cases e
  refine ⟨⟨Same.refl F, ⟨[p], rfl⟩, fun a x e _ => by rw [upd_ne (ne_of_none e n)]; exact e, fun a h1 k => ?_, fun a x e k => (by rw [k] at e; cases e), fun a od u e => by rw [upd_ne (ne_of_none e n)]; exact e⟩, ?_, by simp [R.len], ?_, fun a h1 => ?_, fun k a mo' h1 h2 => ?_⟩
  · rcases List.mem_append.mp h1 with z | z
    · exact absurd z k
    · rw [List.mem_singleton.mp z]; exact n
  · intro b x e
    rw [upd_ne (ne_of_none e nF)]; exact R.sub b x e
  · exact List.nodup_append.mpr ⟨R.nd, by simp, fun a ha b hb z => by subst z; rw [List.mem_singleton.mp hb] at ha; exact nι ha⟩
  · rcases List.mem_append.mp h1 with z | z
    · obtain ⟨x, e⟩ := R.tr a z
      exact ⟨x, by rw [upd_ne (ne_of_none e n)]; exact e⟩
    · rw [List.mem_singleton.mp z]; exact ⟨o, upd_same⟩
  · by_cases hk : k < ι.length
    · rw [List.getElem?_append_left hk] at h1
      rw [List.getElem?_append_left (by rw [← R.len]; exact hk)] at h2
      rcases R.at_ k a mo' h1 h2 with z | ⟨z1, x, z2, z3⟩
      · exact .inl z
      · exact .inr ⟨z1, x, by rw [upd_ne (ne_of_none z2 n)]; exact z2, z3.up (Same.refl F) ⟨[p], rfl⟩⟩
    · have hk1 : k = ι.length := by
        have := (List.getElem?_eq_some_iff.mp h1).1
        simp at this
        omega
      subst hk1
      rw [List.getElem?_append_right (Nat.le_refl _), Nat.sub_self] at h1
      rw [R.len, List.getElem?_append_right (Nat.le_refl _), Nat.sub_self] at h2
      cases h1
      cases h2
      exact .inr ⟨nF, o, upd_same, h.up (Same.refl F) ⟨[p], rfl⟩⟩
/-- a cell is written -/
theorem Rep.put {F H : Hp} {ι : List Addr} {M : MS} (R : Rep F H ι M) {k : Nat} {a : Addr} {o : HO} {mo m0 : MO} (ha : ι[k]? = some a) (hm : M[k]? = some m0) (hg : m0 ≠ .gone) (h : MOk F ι mo o) (hl : ∀ ks, m0 ≠ .dil ks := by intro _ z; cases z) :
    Ext F ι H F ι (upd H a o) ∧ Rep F (upd H a o) ι (M.set k mo) := by
  have hk : k < M.length := (List.getElem?_eq_some_iff.mp hm).1
  obtain ⟨nF, _⟩ : F a = none ∧ ∃ o, H a = some o ∧ MOk F ι m0 o := (R.at_ k a m0 ha hm).resolve_left hg
  have mem : a ∈ ι := List.mem_of_getElem? ha
  have fzp : ∀ b od u, H b = some (.frz od u) → upd H a o b = some (.frz od u) := fun b od u e => by
    by_cases z : b = a
    · rw [z] at e
      obtain ⟨_, o2, e2, k2⟩ := (R.at_ k a m0 ha hm).resolve_left hg
      rw [e] at e2; cases e2
      cases m0 with
      | gone => exact absurd rfl hg
      | lst ws => obtain ⟨vs, q, _⟩ := k2; cases q
      | dic ws => obtain ⟨vs, q, _⟩ := k2; cases q
      | dil ws => exact absurd rfl (hl ws)
    · rw [upd_ne z]; exact e
  refine ⟨⟨Same.refl F, ⟨[], by simp⟩, fun b x e nb => by rw [upd_ne (show b ≠ a from fun z => nb (by rw [z]; exact mem))]; exact e, fun b h1 n => absurd h1 n, fun a x e k => (by rw [k] at e; cases e), fzp⟩, ?_, by simp [R.len], R.nd, fun b hb => ?_, fun j b mo' h1 h2 => ?_⟩
  · intro b x e
    rw [upd_ne (ne_of_none e nF)]; exact R.sub b x e
  · by_cases z : b = a
    · subst z; exact ⟨o, upd_same⟩
    · obtain ⟨x, e⟩ := R.tr b hb
      exact ⟨x, by rw [upd_ne z]; exact e⟩
  · by_cases hj : k = j
    · subst hj
      rw [ha] at h1; cases h1
      rw [List.getElem?_set_self hk] at h2; cases h2
      exact .inr ⟨nF, o, upd_same, h⟩
    · rw [List.getElem?_set_ne hj] at h2
      rcases R.at_ j b mo' h1 h2 with z | ⟨z1, x, z2, z3⟩
      · exact .inl z
      · have nb : b ≠ a := fun z => by
          subst z
          exact hj ((List.getElem?_inj (List.getElem?_eq_some_iff.mp ha).1 R.nd).mp (ha.trans h1.symm))
        exact .inr ⟨z1, x, by rw [upd_ne nb]; exact z2, z3⟩
/-- a cell whose parts are data becomes data for good -/
theorem Rep.freeze {F H : Hp} {ι : List Addr} {M : MS} (R : Rep F H ι M) {k : Nat} {a : Addr} {o : HO} {m0 : MO} (ha : ι[k]? = some a) (hm : M[k]? = some m0) (hg : m0 ≠ .gone) (ho : H a = some o) :
    Ext F ι H (upd F a o) ι H ∧ Rep (upd F a o) H ι (M.set k .gone) := by
  have hk : k < M.length := (List.getElem?_eq_some_iff.mp hm).1
  obtain ⟨nF, _⟩ : F a = none ∧ ∃ o, H a = some o ∧ MOk F ι m0 o := (R.at_ k a m0 ha hm).resolve_left hg
  have sF : Same F (upd F a o) := fun b x e => by
    rw [upd_ne (ne_of_none e nF)]; exact e
  refine ⟨⟨sF, ⟨[], by simp⟩, fun _ _ e _ => e, fun b h1 n => absurd h1 n, fun b x e k => .inr (by
    by_cases z : b = a
    · rw [z]; exact List.mem_of_getElem? ha
    · rw [upd_ne z, k] at e; cases e), fun _ _ _ e => e⟩, ?_, by simp [R.len], R.nd, R.tr, fun j b mo' h1 h2 => ?_⟩
  · intro b x e
    by_cases hb : b = a
    · subst hb; rw [upd_same] at e; cases e; exact ho
    · rw [upd_ne hb] at e; exact R.sub b x e
  · by_cases hj : k = j
    · subst hj
      rw [List.getElem?_set_self hk] at h2; cases h2
      exact .inl rfl
    · rw [List.getElem?_set_ne hj] at h2
      rcases R.at_ j b mo' h1 h2 with z | ⟨z1, x, z2, z3⟩
      · exact .inl z
      · have nb : b ≠ a := fun z => by
          subst z
          exact hj ((List.getElem?_inj (List.getElem?_eq_some_iff.mp ha).1 R.nd).mp (ha.trans h1.symm))
        exact .inr ⟨by rw [upd_ne nb]; exact z1, x, z2, z3.up sF ⟨[], by simp⟩⟩

/-! ### the judgements -/
def ZE (X : Cx) (e : Expr) (Γ : GS) (M : MS) (Φ : W → MS → Prop) : Prop := ∀ F ι σ H, Rep F H ι M → Slots F ι σ Γ → wE X e σ H (Post F ι H Φ)
def ZT (X : Cx) (e : Expr) (Γ : GS) (M : MS) (Φ : Bool → MS → Prop) : Prop := ∀ F ι σ H, Rep F H ι M → Slots F ι σ Γ → wT X e σ H (PostT F ι H Φ)
def ZA (X : Cx) (es : List Expr) (Γ : GS) (M : MS) (Φ : List W → MS → Prop) : Prop := ∀ F ι σ H, Rep F H ι M → Slots F ι σ Γ → wA X es σ H (PostA F ι H Φ)
def ZG (X : Cx) (tg : Expr) (w : W) (Γ : GS) (M : MS) (Φ : GS → MS → Prop) : Prop := ∀ F ι σ H v, Rep F H ι M → Slots F ι σ Γ → RW F ι v w → wG X tg v σ H (PostG F ι H Φ)
structure ZD where
  nx : GS → MS → Prop
  rt : W → MS → Prop
  bk : GS → MS → Prop := fun _ _ => False
  ct : GS → MS → Prop := fun _ _ => False
def ZD.ends (D : ZD) (F : Hp) (ι : List Addr) (H : Hp) : Ends := { nx := PostG F ι H D.nx, rt := Post F ι H D.rt, bk := PostG F ι H D.bk, ct := PostG F ι H D.ct }
def ZS (X : Cx) (st : Stmt) (Γ : GS) (M : MS) (D : ZD) : Prop := ∀ F ι σ H, Rep F H ι M → Slots F ι σ Γ → wS X st (D.ends F ι H) σ H
def ZSs (X : Cx) (st : List Stmt) (Γ : GS) (M : MS) (D : ZD) : Prop := ∀ F ι σ H, Rep F H ι M → Slots F ι σ Γ → wSs X st (D.ends F ι H) σ H
theorem ends_ext {F F1 H H1 : Hp} {ι ι1 : List Addr} (x : Ext F ι H F1 ι1 H1) (D : ZD) : Ends.Le (D.ends F1 ι1 H1) (D.ends F ι H) :=
  ⟨fun _ _ h => PostG.ext x h, fun _ _ h => Post.ext x h, fun _ _ h => PostG.ext x h, fun _ _ h => PostG.ext x h⟩
section
variable {X : Cx} {e : Expr} {Γ : GS} {M : MS}
theorem ZE.mono {Φ Φ' : W → MS → Prop} (h : ZE X e Γ M Φ) (k : ∀ w M', Φ w M' → Φ' w M') : ZE X e Γ M Φ' := fun F ι σ H R S =>
  wE.mono (h F ι σ H R S) fun _ _ ⟨F', ι', M', w, a, b, c, d⟩ => ⟨F', ι', M', w, a, b, c, k w M' d⟩
theorem ZT.mono {Φ Φ' : Bool → MS → Prop} (h : ZT X e Γ M Φ) (k : ∀ w M', Φ w M' → Φ' w M') : ZT X e Γ M Φ' := fun F ι σ H R S =>
  wT.mono (h F ι σ H R S) fun _ _ ⟨F', ι', M', a, b, d⟩ => ⟨F', ι', M', a, b, k _ M' d⟩
end
end Z

/-! Z2: the rules of expressions over plain data. -/
namespace Z
open PySem PySem.Spec PyProof.Rows L2
section
variable {X : Cx} {a b e : Expr} {es : List Expr} {pos : Pos} {Γ : GS} {M : MS} {Φ : W → MS → Prop}

/-! ### glue -/
theorem z1 {r : V → Hp → VK → Prop} {Ψ : W → MS → Prop} (pe : PE X e (fun σ H Q => wE X a σ H fun x H1 => r x H1 Q)) (h : ZE X a Γ M Ψ)
    (hr : ∀ F ι H M v x Q, Rep F H ι M → RW F ι v x → Ψ x M → (∀ z H', Post F ι H Φ z H' → Q z H') → r v H Q) : ZE X e Γ M Φ := fun F ι σ H R S => by
  refine w_e pe ((h F ι σ H R S).mono ?_)
  rintro v H1 ⟨F1, ι1, M1, x, E1, R1, rx, ψ⟩
  exact hr F1 ι1 H1 M1 v x _ R1 rx ψ fun z H' p => Post.ext E1 p
theorem z2 {r : R2} {Ψ : W → W → MS → Prop} (pe : PE X e (tOp r (wE X a) (wE X b))) (h : ZE X a Γ M fun x M1 => ZE X b Γ M1 fun y M2 => Ψ x y M2)
    (hr : ∀ F ι H M v u x y Q, Rep F H ι M → RW F ι v x → RW F ι u y → Ψ x y M → (∀ z H', Post F ι H Φ z H' → Q z H') → r v u H Q) : ZE X e Γ M Φ := fun F ι σ H R S => by
  refine w_e pe ((h F ι σ H R S).mono ?_)
  rintro v H1 ⟨F1, ι1, M1, x, E1, R1, rx, hb⟩
  refine (hb F1 ι1 σ H1 R1 (E1.slots S)).mono ?_
  rintro u H2 ⟨F2, ι2, M2, y, E2, R2, ry, ψ⟩
  exact hr F2 ι2 H2 M2 v u x y _ R2 (E2.rw rx) ry ψ fun z H' p => Post.ext (E1.trans E2) p
theorem za {r : List V → Hp → VK → Prop} {Ψ : List W → MS → Prop} (pe : PE X e (fun σ H Q => wA X es σ H fun x H1 => r x H1 Q)) (h : ZA X es Γ M Ψ)
    (hr : ∀ F ι H M vs xs Q, Rep F H ι M → RWs F ι vs xs → Ψ xs M → (∀ z H', Post F ι H Φ z H' → Q z H') → r vs H Q) : ZE X e Γ M Φ := fun F ι σ H R S => by
  refine w_e pe ((h F ι σ H R S).mono ?_)
  rintro v H1 ⟨F1, ι1, M1, x, E1, R1, rx, ψ⟩
  exact hr F1 ι1 H1 M1 v x _ R1 rx ψ fun z H' p => Post.ext E1 p
theorem za_nil {Φ : List W → MS → Prop} (h : Φ [] M) : ZA X [] Γ M Φ := fun F ι σ H R S => w_a pa_nil ⟨F, ι, M, [], Ext.refl F ι H, R, .nil, h⟩
theorem za_cons {Φ : List W → MS → Prop} (h : ZE X e Γ M fun x M1 => ZA X es Γ M1 fun xs M2 => Φ (x :: xs) M2) (hs : starEach (e :: es) X.env = (false, eval e X.env) :: starEach es X.env := by rfl) : ZA X (e :: es) Γ M Φ := fun F ι σ H R S => by
  refine w_a (pa_cons pe_w pa_w hs) ((h F ι σ H R S).mono ?_)
  rintro v H1 ⟨F1, ι1, M1, x, E1, R1, rx, hb⟩
  refine (hb F1 ι1 σ H1 R1 (E1.slots S)).mono ?_
  rintro u H2 ⟨F2, ι2, M2, y, E2, R2, ry, ψ⟩
  exact ⟨F2, ι2, M2, x :: y, E1.trans E2, R2, .cons (E2.rw rx) ry, ψ⟩

/-! ### names, constants -/
theorem ze_name (i : Nat) {x : Str} {w : W} (hg : Γ[i]? = some (some w)) (h : Φ w M) (hN : X.N[i]? = some x := by rfl) (hv : Vis X.env.scope x := by first | exact Or.inl rfl | exact Or.inr (Or.inl rfl) | exact Or.inr (Or.inr rfl))
    (hd : (x == ("__debug__" : Str)) = false := by decide) (hcd : (x == ("__classdict__" : Str)) = false := by decide) : ZE X (.Name x pos) Γ M Φ := fun F ι σ H R S => by
  obtain ⟨v, e1, r⟩ := S.get i w hg
  exact w_e (pe_var hN hv hd hcd) ⟨v, e1, Post.ret R r h⟩
theorem ze_int {i : Int} {j} (h : Φ (.d (.int i)) M) : ZE X (.Constant (.int i) j pos) Γ M Φ := fun F ι σ H R S => w_e pe_int (Post.dat R (At.int i) h)
theorem ze_str {i : Str} {j} (h : Φ (.d (.str i)) M) : ZE X (.Constant (.str i) j pos) Γ M Φ := fun F ι σ H R S => w_e pe_str (Post.dat R (At.str i) h)
theorem ze_bl {i : Bool} {j} (h : Φ (.d (.bool i)) M) : ZE X (.Constant (.bool i) j pos) Γ M Φ := fun F ι σ H R S => w_e pe_bl (Post.dat R (At.bl i) h)
theorem ze_non {j} (h : Φ (.d .none) M) : ZE X (.Constant .none j pos) Γ M Φ := fun F ι σ H R S => w_e pe_non (Post.dat R At.non h)

/-! ### arithmetic -/
theorem ze_arith {op : Operator} {C : Int → Int → Prop} {g : Int → Int → Int} (ho : OpR X (binaryOp op) (rI C fun i j => .int (g i j)))
    (h : ZE X a Γ M fun x M1 => ZE X b Γ M1 fun y M2 => ∃ i j, x = .d (.int i) ∧ y = .d (.int j) ∧ C i j ∧ Φ (.d (.int (g i j))) M2) : ZE X (.BinOp a op b pos) Γ M Φ :=
  z2 (pe_op ho pe_w pe_w) h fun F ι H M v u x y Q R rx ry ψ hQ => by
    obtain ⟨i, j, rfl, rfl, c, φ⟩ := ψ
    exact ⟨i, j, At.int_ rx, At.int_ ry, c, hQ _ _ (Post.dat R (At.int _) φ)⟩
theorem ze_arith0 {op : Operator} {g : Int → Int → Int} (ho : OpR X (binaryOp op) (rI0 fun i j => .int (g i j)))
    (h : ZE X a Γ M fun x M1 => ZE X b Γ M1 fun y M2 => ∃ i j, x = .d (.int i) ∧ y = .d (.int j) ∧ Φ (.d (.int (g i j))) M2) : ZE X (.BinOp a op b pos) Γ M Φ :=
  z2 (pe_op ho pe_w pe_w) h fun F ι H M v u x y Q R rx ry ψ hQ => by
    obtain ⟨i, j, rfl, rfl, φ⟩ := ψ
    exact ⟨i, j, At.int_ rx, At.int_ ry, hQ _ _ (Post.dat R (At.int _) φ)⟩
theorem ze_sub (h : ZE X a Γ M fun x M1 => ZE X b Γ M1 fun y M2 => ∃ i j, x = .d (.int i) ∧ y = .d (.int j) ∧ Φ (.d (.int (i - j))) M2) : ZE X (.BinOp a .Sub b pos) Γ M Φ := ze_arith0 op_sub h
theorem ze_mul (h : ZE X a Γ M fun x M1 => ZE X b Γ M1 fun y M2 => ∃ i j, x = .d (.int i) ∧ y = .d (.int j) ∧ CMul i j ∧ Φ (.d (.int (i * j))) M2) : ZE X (.BinOp a .Mult b pos) Γ M Φ := ze_arith op_mul h
theorem ze_mod (h : ZE X a Γ M fun x M1 => ZE X b Γ M1 fun y M2 => ∃ i j, x = .d (.int i) ∧ y = .d (.int j) ∧ 0 < j ∧ Φ (.d (.int (i % j))) M2) : ZE X (.BinOp a .Mod b pos) Γ M Φ := ze_arith op_mod h
theorem ze_fdiv (h : ZE X a Γ M fun x M1 => ZE X b Γ M1 fun y M2 => ∃ i j, x = .d (.int i) ∧ y = .d (.int j) ∧ CDiv i j ∧ Φ (.d (.int (i / j))) M2) : ZE X (.BinOp a .FloorDiv b pos) Γ M Φ := ze_arith op_fdiv h
theorem ze_pow (h : ZE X a Γ M fun x M1 => ZE X b Γ M1 fun y M2 => ∃ i j, x = .d (.int i) ∧ y = .d (.int j) ∧ CPow i j ∧ Φ (.d (.int (i ^ j.toNat))) M2) : ZE X (.BinOp a .Pow b pos) Γ M Φ := ze_arith op_pow h
/-- what x + y gives: numbers, texts, lists, tuples -/
def AddW (x y : W) (M : MS) (Φ : W → MS → Prop) : Prop :=
  (∃ i j, x = .d (.int i) ∧ y = .d (.int j) ∧ Φ (.d (.int (i + j))) M) ∨ (∃ i j, x = .d (.str i) ∧ y = .d (.str j) ∧ i.length + j.length ≤ sizeLine ∧ Φ (.d (.str (i ++ j))) M) ∨
  (∃ i j, x = .d (.list i) ∧ y = .d (.list j) ∧ i.length + j.length ≤ sizeLine ∧ Φ (.d (.list (i ++ j))) M) ∨ (∃ i j, x = .d (.tuple i) ∧ y = .d (.tuple j) ∧ i.length + j.length ≤ sizeLine ∧ Φ (.d (.tuple (i ++ j))) M)
theorem AddW.int {i j : Int} (h : Φ (.d (.int (i + j))) M) : AddW (.d (.int i)) (.d (.int j)) M Φ := .inl ⟨i, j, rfl, rfl, h⟩
theorem AddW.str {i j : Str} (z : i.length + j.length ≤ sizeLine) (h : Φ (.d (.str (i ++ j))) M) : AddW (.d (.str i)) (.d (.str j)) M Φ := .inr (.inl ⟨i, j, rfl, rfl, z, h⟩)
theorem AddW.list {i j : List PyData} (z : i.length + j.length ≤ sizeLine) (h : Φ (.d (.list (i ++ j))) M) : AddW (.d (.list i)) (.d (.list j)) M Φ := .inr (.inr (.inl ⟨i, j, rfl, rfl, z, h⟩))
theorem AddW.tuple {i j : List PyData} (z : i.length + j.length ≤ sizeLine) (h : Φ (.d (.tuple (i ++ j))) M) : AddW (.d (.tuple i)) (.d (.tuple j)) M Φ := .inr (.inr (.inr ⟨i, j, rfl, rfl, z, h⟩))
theorem lay_lst {F : Hp} {ι : List Addr} {H : Hp} {Q : VK} {vs : List V} {ds : List PyData} (R : Rep F H ι M) (r : AtAll F vs ds) (φ : Φ (.d (.list ds)) M) (hQ : ∀ z H', Post F ι H Φ z H' → Q z H') (p : Addr) (n : H p = none) : Q (.ref p) (upd H p (.lst vs)) := by
  obtain ⟨E, R'⟩ := R.lay (o := .lst vs) n
  exact hQ _ _ (Post.ext E (Post.ret R' (show RW _ _ _ (.d _) from .lst upd_same (r.up E.same)) φ))
theorem lay_tup {F : Hp} {ι : List Addr} {H : Hp} {Q : VK} {vs : List V} {ds : List PyData} (R : Rep F H ι M) (r : AtAll F vs ds) (φ : Φ (.d (.tuple ds)) M) (hQ : ∀ z H', Post F ι H Φ z H' → Q z H') (p : Addr) (n : H p = none) : Q (.ref p) (upd H p (.tup vs)) := by
  obtain ⟨E, R'⟩ := R.lay (o := .tup vs) n
  exact hQ _ _ (Post.ext E (Post.ret R' (show RW _ _ _ (.d _) from .tup upd_same (r.up E.same)) φ))
theorem ze_add (h : ZE X a Γ M fun x M1 => ZE X b Γ M1 fun y M2 => AddW x y M2 Φ) : ZE X (.BinOp a .Add b pos) Γ M Φ :=
  z2 (pe_op (op_add.or (op_add_str.or (op_cat.or op_catA))) pe_w pe_w) h fun F ι H M v u x y Q R rx ry ψ hQ => by
    rcases ψ with ⟨i, j, rfl, rfl, φ⟩ | ⟨i, j, rfl, rfl, z, φ⟩ | ⟨i, j, rfl, rfl, z, φ⟩ | ⟨i, j, rfl, rfl, z, φ⟩
    · exact .inl ⟨i, j, At.int_ rx, At.int_ ry, hQ _ _ (Post.dat R (At.int _) φ)⟩
    · exact .inr (.inl ⟨i, j, At.str_ rx, At.str_ ry, z, hQ _ _ (Post.dat R (At.str _) φ)⟩)
    · obtain ⟨p, vs, rfl, f1, r1⟩ := At.lst_ rx
      obtain ⟨q, us, rfl, f2, r2⟩ := At.lst_ ry
      exact .inr (.inr (.inl ⟨p, q, vs, us, rfl, rfl, R.sub _ _ f1, R.sub _ _ f2, by rw [r1.len, r2.len]; exact z, lay_lst R (r1.app r2) φ hQ⟩))
    · obtain ⟨p, vs, rfl, f1, r1⟩ := At.tup_ rx
      obtain ⟨q, us, rfl, f2, r2⟩ := At.tup_ ry
      refine .inr (.inr (.inr ⟨p, q, vs, us, rfl, rfl, .of (R.sub _ _ f1), .of (R.sub _ _ f2), by rw [r1.len, r2.len]; exact z, fun e => ?_, fun _ e => ?_, fun _ _ => lay_tup R (r1.app r2) φ hQ⟩))
      · subst e
        cases r1
        exact hQ _ _ (Post.ret R (show RW F ι (.ref q) (.d (.tuple j)) from .tup f2 r2) (by simpa using φ))
      · subst e
        cases r2
        exact hQ _ _ (Post.ret R (show RW F ι (.ref p) (.d (.tuple i)) from .tup f1 r1) (by simpa using φ))
theorem ze_neg (h : ZE X a Γ M fun x M1 => ∃ i, x = .d (.int i) ∧ Φ (.d (.int (-i))) M1) : ZE X (.UnaryOp .USub a pos) Γ M Φ :=
  z1 (pe_un un_neg pe_w) h fun F ι H M v x Q R rx ψ hQ => by
    obtain ⟨i, rfl, φ⟩ := ψ
    exact ⟨i, At.int_ rx, hQ _ _ (Post.dat R (At.int _) φ)⟩

/-! ### comparisons: as values and as tests -/
def wC (X : Cx) (op : CmpOp) (a b : Expr) : TE := fun σ H Q => ∀ pins s, Inv X pins σ H s →
  wpAny (model X.prog X.w) X.A (eval a X.env) (fun v s1 => wpAny (model X.prog X.w) X.A (eval b X.env) (fun u s2 => wpAny (model X.prog X.w) X.A (compareOp op v u) (EP X pins σ Q) X.xe s2) X.xe s1) X.xe s
def ZC (X : Cx) (op : CmpOp) (a b : Expr) (Γ : GS) (M : MS) (Φ : W → MS → Prop) : Prop := ∀ F ι σ H, Rep F H ι M → Slots F ι σ Γ → wC X op a b σ H (Post F ι H Φ)
theorem pc_w {op : CmpOp} : PC X op a b (wC X op a b) := ⟨fun pins s _ _ _ I h => h pins s I⟩
theorem ze_cmp {op : CmpOp} (h : ZC X op a b Γ M Φ) (h1 : behindInMarks op b = false := by first | exact nobehind _ (by decide) (by decide) | rfl) : ZE X (.Compare a [op] [b] pos) Γ M Φ :=
  fun F ι σ H R S => w_e (pe_cmp pc_w h1) (h F ι σ H R S)
def TB (Φ : Bool → MS → Prop) : W → MS → Prop := fun w M => ∃ c, w = .d (.bool c) ∧ Φ c M
theorem post_tb {F : Hp} {ι : List Addr} {H H' : Hp} {Φ : Bool → MS → Prop} {v : V} (h : Post F ι H (TB Φ) v H') : ∃ c, v = .bl c ∧ PostT F ι H Φ c H' := by
  obtain ⟨F', ι', M', w, E, R, r, c, rfl, φ⟩ := h
  exact ⟨c, At.bl_ r, F', ι', M', E, R, φ⟩
theorem wC.mono {op : CmpOp} {σ : St} {H : Hp} {Q Q' : VK} (h : wC X op a b σ H Q) (k : ∀ v H', Q v H' → Q' v H') : wC X op a b σ H Q' := fun pins s I =>
  thn (h pins s I) fun _ _ q1 => thn q1 fun _ _ q2 => thn q2 fun _ _ ⟨v, H', I', r, q⟩ => ⟨v, H', I', r, k v H' q⟩
theorem zt_cmp {op : CmpOp} {Φ : Bool → MS → Prop} (h : ZC X op a b Γ M (TB Φ)) (h1 : behindInMarks op b = false := by first | exact nobehind _ (by decide) (by decide) | rfl) : ZT X (.Compare a [op] [b] pos) Γ M Φ :=
  fun F ι σ H R S => w_t (pt_cmp pc_w h1) ((h F ι σ H R S).mono fun v H' p => post_tb p)
/-- any other expression that gives a truth -/
theorem zt_val {Φ : Bool → MS → Prop} (h : ZE X e Γ M (TB Φ)) (he : ∀ whole, isTrue e X.env whole = (do let v ← whole; standAt e.pos; holding [v] (truthy v)) := by intro _; rfl) : ZT X e Γ M Φ :=
  fun F ι σ H R S => w_t (pt_val pe_w he) ((h F ι σ H R S).mono fun v H' p => post_tb p)
theorem zc {op : CmpOp} {r : R2} {Ψ : W → W → MS → Prop} (ho : OpR X (compareOp op) r) (h : ZE X a Γ M fun x M1 => ZE X b Γ M1 fun y M2 => Ψ x y M2)
    (hr : ∀ F ι H M v u x y Q, Rep F H ι M → RW F ι v x → RW F ι u y → Ψ x y M → (∀ z H', Post F ι H Φ z H' → Q z H') → r v u H Q) : ZC X op a b Γ M Φ := fun F ι σ H R S pins s I => by
  refine thn (h F ι σ H R S pins s I) ?_
  rintro v s1 ⟨v', H1, I1, r1, F1, ι1, M1, x, E1, R1, rx, hb⟩
  refine thn (hb F1 ι1 σ H1 R1 (E1.slots S) pins s1 I1) ?_
  rintro u s2 ⟨u', H2, I2, r2, F2, ι2, M2, y, E2, R2, ry, ψ⟩
  exact ho pins s2 σ H2 v' u' v u _ I2 r1 r2 (hr F2 ι2 H2 M2 v' u' x y _ R2 (E2.rw rx) ry ψ fun z H' p => Post.ext (E1.trans E2) p)
theorem zc_int {op : CmpOp} {g : Int → Int → Bool} (ho : OpR X (compareOp op) (rI0 fun i j => .bl (g i j)))
    (h : ZE X a Γ M fun x M1 => ZE X b Γ M1 fun y M2 => ∃ i j, x = .d (.int i) ∧ y = .d (.int j) ∧ Φ (.d (.bool (g i j))) M2) : ZC X op a b Γ M Φ :=
  zc ho h fun F ι H M v u x y Q R rx ry ψ hQ => by
    obtain ⟨i, j, rfl, rfl, φ⟩ := ψ
    exact ⟨i, j, At.int_ rx, At.int_ ry, hQ _ _ (Post.dat R (At.bl _) φ)⟩
theorem zc_lt (h : ZE X a Γ M fun x M1 => ZE X b Γ M1 fun y M2 => ∃ i j, x = .d (.int i) ∧ y = .d (.int j) ∧ Φ (.d (.bool (decide (i < j)))) M2) : ZC X .Lt a b Γ M Φ := zc_int op_lt h
theorem zc_le (h : ZE X a Γ M fun x M1 => ZE X b Γ M1 fun y M2 => ∃ i j, x = .d (.int i) ∧ y = .d (.int j) ∧ Φ (.d (.bool (decide (i ≤ j)))) M2) : ZC X .LtE a b Γ M Φ := zc_int op_le h
theorem zc_gt (h : ZE X a Γ M fun x M1 => ZE X b Γ M1 fun y M2 => ∃ i j, x = .d (.int i) ∧ y = .d (.int j) ∧ Φ (.d (.bool (decide (j < i)))) M2) : ZC X .Gt a b Γ M Φ := zc_int op_gt h
theorem zc_ge (h : ZE X a Γ M fun x M1 => ZE X b Γ M1 fun y M2 => ∃ i j, x = .d (.int i) ∧ y = .d (.int j) ∧ Φ (.d (.bool (decide (j ≤ i)))) M2) : ZC X .GtE a b Γ M Φ := zc_int op_ge h
def isN : W → Bool
  | .d .none => true
  | _ => false
theorem isN_ok {F : Hp} {ι : List Addr} {v : V} {x : W} (r : RW F ι v x) : decide (v = .non) = isN x := by
  cases x with
  | m k => obtain ⟨a, _, rfl⟩ := r; rfl
  | d y => cases r <;> rfl
theorem zc_isN (h : ZE X a Γ M fun x M1 => Φ (.d (.bool (isN x))) M1) {j pos'} : ZC X .Is a (.Constant .none j pos') Γ M Φ :=
  zc op_isN (Ψ := fun x y M => y = .d .none ∧ Φ (.d (.bool (isN x))) M) (h.mono fun x M1 φ => ze_non ⟨rfl, φ⟩) fun F ι H M v u x y Q R rx ry ψ hQ => by
    obtain ⟨rfl, φ⟩ := ψ
    exact ⟨At.non_ ry, hQ _ _ (Post.dat R (by rw [isN_ok rx]; exact At.bl _) φ)⟩
theorem zc_notN (h : ZE X a Γ M fun x M1 => Φ (.d (.bool (!isN x))) M1) {j pos'} : ZC X .IsNot a (.Constant .none j pos') Γ M Φ :=
  zc op_notN (Ψ := fun x y M => y = .d .none ∧ Φ (.d (.bool (!isN x))) M) (h.mono fun x M1 φ => ze_non ⟨rfl, φ⟩) fun F ι H M v u x y Q R rx ry ψ hQ => by
    obtain ⟨rfl, φ⟩ := ψ
    exact ⟨At.non_ ry, hQ _ _ (Post.dat R (by rw [isN_ok rx]; exact At.bl _) φ)⟩

/-! ### and, or, not, if -/
section
variable {rest : List Expr} {c : Expr} {ΦB : Bool → MS → Prop}
def wW (X : Cx) (e : Expr) : TT := fun σ H Q => ∀ whole pins s, Inv X pins σ H s → wpAny (model X.prog X.w) X.A (isTrue e X.env whole) (TP X pins σ Q) X.xe s
theorem pw_w : PW X e (wW X e) := ⟨fun whole pins s _ _ _ I h => h whole pins s I⟩
def ZW (X : Cx) (e : Expr) (Γ : GS) (M : MS) (Φ : Bool → MS → Prop) : Prop := ∀ F ι σ H, Rep F H ι M → Slots F ι σ Γ → wW X e σ H (PostT F ι H Φ)
theorem w_w {t : TT} {σ : St} {H : Hp} {Q : Bool → Hp → Prop} (h : PW X e t) (q : t σ H Q) : wW X e σ H Q := fun whole pins s I => h.run whole pins s σ H Q I q
theorem wW.mono {σ : St} {H : Hp} {Q Q' : Bool → Hp → Prop} (h : wW X e σ H Q) (k : ∀ b H', Q b H' → Q' b H') : wW X e σ H Q' := fun whole pins s I =>
  thn (h whole pins s I) fun _ _ ⟨H', I', q⟩ => ⟨H', I', k _ H' q⟩
theorem zt_w (h : ZW X e Γ M ΦB) : ZT X e Γ M ΦB := fun F ι σ H R S => w_t (PW.pt pw_w) (h F ι σ H R S)
theorem zw_and1 (h : ZT X a Γ M ΦB) : ZW X (.BoolOp .And [a] pos) Γ M ΦB := fun F ι σ H R S => w_w (pw_and1 pt_w) (h F ι σ H R S)
theorem zw_or1 (h : ZT X a Γ M ΦB) : ZW X (.BoolOp .Or [a] pos) Γ M ΦB := fun F ι σ H R S => w_w (pw_or1 pt_w) (h F ι σ H R S)
theorem zw_and (h : ZT X a Γ M fun c M1 => if c = true then ZW X (.BoolOp .And (b :: rest) pos) Γ M1 ΦB else ΦB false M1) : ZW X (.BoolOp .And (a :: b :: rest) pos) Γ M ΦB := fun F ι σ H R S => by
  refine w_w (pw_and pt_w pw_w) ((h F ι σ H R S).mono ?_)
  rintro c H1 ⟨F1, ι1, M1, E1, R1, q⟩
  cases c with
  | true => exact (q F1 ι1 σ H1 R1 (E1.slots S)).mono fun _ _ p => PostT.ext E1 p
  | false => exact ⟨F1, ι1, M1, E1, R1, q⟩
theorem zw_or (h : ZT X a Γ M fun c M1 => if c = true then ΦB true M1 else ZW X (.BoolOp .Or (b :: rest) pos) Γ M1 ΦB) : ZW X (.BoolOp .Or (a :: b :: rest) pos) Γ M ΦB := fun F ι σ H R S => by
  refine w_w (pw_or pt_w pw_w) ((h F ι σ H R S).mono ?_)
  rintro c H1 ⟨F1, ι1, M1, E1, R1, q⟩
  cases c with
  | false => exact (q F1 ι1 σ H1 R1 (E1.slots S)).mono fun _ _ p => PostT.ext E1 p
  | true => exact ⟨F1, ι1, M1, E1, R1, q⟩
theorem zt_not (h : ZT X a Γ M fun c M1 => ΦB (!c) M1) : ZT X (.UnaryOp .Not a pos) Γ M ΦB := fun F ι σ H R S => by
  refine w_t (pt_not pt_w) ((h F ι σ H R S).mono ?_)
  rintro c H1 ⟨F1, ι1, M1, E1, R1, q⟩
  exact ⟨F1, ι1, M1, E1, R1, q⟩
theorem ze_one {op} (h : ZE X a Γ M Φ) : ZE X (.BoolOp op [a] pos) Γ M Φ := fun F ι σ H R S => w_e (pe_one pe_w) (h F ι σ H R S)
theorem ze_and (h : ZE X a Γ M (TB fun c M1 => if c = true then ZE X (.BoolOp .And (b :: rest) pos) Γ M1 Φ else Φ (.d (.bool false)) M1)) : ZE X (.BoolOp .And (a :: b :: rest) pos) Γ M Φ := fun F ι σ H R S => by
  refine w_e (pe_and pe_w pe_w) ((h F ι σ H R S).mono ?_)
  rintro v H1 ⟨F1, ι1, M1, w, E1, R1, rw', c, rfl, q⟩
  refine ⟨c, At.bl_ rw', ?_⟩
  cases c with
  | true => exact (q F1 ι1 σ H1 R1 (E1.slots S)).mono fun _ _ p => Post.ext E1 p
  | false => exact ⟨F1, ι1, M1, _, E1, R1, (show RW _ _ _ (.d (.bool false)) from At.bl false), q⟩
theorem ze_or (h : ZE X a Γ M (TB fun c M1 => if c = true then Φ (.d (.bool true)) M1 else ZE X (.BoolOp .Or (b :: rest) pos) Γ M1 Φ)) : ZE X (.BoolOp .Or (a :: b :: rest) pos) Γ M Φ := fun F ι σ H R S => by
  refine w_e (pe_or pe_w pe_w) ((h F ι σ H R S).mono ?_)
  rintro v H1 ⟨F1, ι1, M1, w, E1, R1, rw', c, rfl, q⟩
  refine ⟨c, At.bl_ rw', ?_⟩
  cases c with
  | false => exact (q F1 ι1 σ H1 R1 (E1.slots S)).mono fun _ _ p => Post.ext E1 p
  | true => exact ⟨F1, ι1, M1, _, E1, R1, (show RW _ _ _ (.d (.bool true)) from At.bl true), q⟩
theorem ze_not (h : ZE X a Γ M (TB fun c M1 => Φ (.d (.bool (!c))) M1)) : ZE X (.UnaryOp .Not a pos) Γ M Φ := fun F ι σ H R S => by
  refine w_e (pe_not pe_w) ((h F ι σ H R S).mono ?_)
  rintro v H1 ⟨F1, ι1, M1, w, E1, R1, rw', c, rfl, q⟩
  exact ⟨c, At.bl_ rw', F1, ι1, M1, _, E1, R1, (show RW _ _ _ (.d (.bool (!c))) from At.bl _), q⟩
theorem ze_if (h : ZT X c Γ M fun k M1 => if k = true then ZE X a Γ M1 Φ else ZE X b Γ M1 Φ) : ZE X (.IfExp c a b pos) Γ M Φ := fun F ι σ H R S => by
  refine w_e (pe_ifExp pt_w pe_w pe_w) ((h F ι σ H R S).mono ?_)
  rintro k H1 ⟨F1, ι1, M1, E1, R1, q⟩
  cases k with
  | true => exact (show ZE X a Γ M1 Φ from q) F1 ι1 σ H1 R1 (E1.slots S) |>.mono fun _ _ p => Post.ext E1 p
  | false => exact (show ZE X b Γ M1 Φ from q) F1 ι1 σ H1 R1 (E1.slots S) |>.mono fun _ _ p => Post.ext E1 p
end

/-! ### displays -/
theorem RWs.dat {F : Hp} {ι : List Addr} : ∀ {vs : List V} {ds : List PyData}, RWs F ι vs (ds.map .d) → AtAll F vs ds
  | _, [], h => by cases h; exact .nil
  | _, d :: ds, h => by cases h with | cons a b => exact .cons a (RWs.dat b)
theorem RWs.of {F : Hp} {ι : List Addr} : ∀ {vs : List V} {ds : List PyData}, AtAll F vs ds → RWs F ι vs (ds.map .d)
  | _, _, .nil => .nil
  | _, _, .cons a b => .cons a (RWs.of b)
theorem ze_tup {k} (h : ZA X es Γ M fun ws M1 => ∃ ds, ws = ds.map .d ∧ ds.length ≤ sizeLine ∧ Φ (.d (.tuple ds)) M1) : ZE X (.Tuple es k pos) Γ M Φ :=
  za (pe_tup pa_w) h fun F ι H M vs xs Q R r ψ hQ => by
    obtain ⟨ds, rfl, z, φ⟩ := ψ
    exact ⟨by rw [(RWs.dat r).len]; exact z, lay_tup R (RWs.dat r) φ hQ⟩
/-- a list that is never changed -/
theorem ze_lst (h : ZA X es Γ M fun ws M1 => ∃ ds, ws = ds.map .d ∧ ds.length ≤ sizeLine ∧ Φ (.d (.list ds)) M1) : ZE X (.List es pos) Γ M Φ :=
  za (pe_lst pa_w) h fun F ι H M vs xs Q R r ψ hQ => by
    obtain ⟨ds, rfl, z, φ⟩ := ψ
    exact ⟨by rw [(RWs.dat r).len]; exact z, lay_lst R (RWs.dat r) φ hQ⟩
theorem RWs.len {F : Hp} {ι : List Addr} {vs : List V} {ws : List W} (h : RWs F ι vs ws) : vs.length = ws.length := Paired.length h
/-- a list that is to be changed: a new cell -/
theorem ze_lstM (h : ZA X es Γ M fun ws M1 => ws.length ≤ sizeLine ∧ Φ (.m M1.length) (M1 ++ [.lst ws])) : ZE X (.List es pos) Γ M Φ :=
  za (pe_lst pa_w) h fun F ι H M vs xs Q R r ψ hQ => by
    obtain ⟨z, φ⟩ := ψ
    refine ⟨by rw [r.len]; exact z, fun p n => ?_⟩
    obtain ⟨E, R'⟩ := R.new (o := .lst vs) (mo := .lst xs) n ⟨vs, rfl, r⟩
    exact hQ _ _ (Post.ext E (Post.ret R' (RW.m (by rw [← R.len, List.getElem?_append_right (Nat.le_refl _)]; simp)) φ))
end
end Z

/-! Z3: data as the model reads it: ==, in, repr; the calls of built-in functions. -/
namespace Z
open PySem PySem.Spec PyProof.Rows L2

/-! ### room, and that nothing is being shown -/
structure RoomZ (k : Nat) (A : Around) : Prop where
  r : Room k A
  g : A.guards = some []
theorem RoomZ.mono {j k : Nat} {A : Around} (h : RoomZ k A) (l : j ≤ k) : RoomZ j A := ⟨h.r.mono l, h.g⟩
theorem RoomZ.deeper {k : Nat} {A : Around} (h : RoomZ (k + 1) A) (env : Env) : RoomZ k (A.deeper env) := ⟨h.r.deeper env, h.g⟩
theorem RoomZ.hu {k : Nat} {A : Around} (h : RoomZ k A) : A.units + 1 < cLine := hu_of h.r
theorem RoomZ.hu64 {k : Nat} {A : Around} (h : RoomZ k A) : A.units + 64 < cLine := h.r.units
theorem RoomZ.hu65 {k : Nat} {A : Around} (h : RoomZ k A) : A.units + 65 < cLine := by have := h.r.un; omega

/-! ### data as the model reads it -/
section
variable {X : Cx} {pins : List (Addr × Obj)} {σ : St} {H F : Hp} {s : Shared}
theorem keyD_reads {P : Program} {w : World} {h : Heap} {k : Key} {u : Value} (e : (mixKind P w).is k u = true) : Reads h u (keyD k) [] := by
  rcases keyIs_shape (k := k) (v := u) e with ⟨i, t, rfl, rfl⟩ | ⟨x, t, rfl, rfl⟩
  · exact Reads.int i t
  · exact Reads.str x t
theorem dict_parts {P : Program} {w : World} {kvs : List (Key × V)} {vs : List (Key × Value)} (r : KV kvs vs) : ∀ {es : List DictEntry}, Pairs (mixKind P w) es vs →
    (∀ (h : Heap) (ks : List PyData), ks = kvs.map (fun p => keyD p.1) → ReadsAll h (es.map (·.key)) ks []) ∧ Vals (kvs.map (·.2)) (es.map (·.val)) := by
  unfold KV at r
  induction r with
  | nil =>
    intro es p
    cases p
    exact ⟨fun h ks e => by subst e; exact .nil, .nil⟩
  | @cons p q ps qs hpq t ih =>
    intro es pr
    cases pr with
    | cons h1 h2 h3 =>
      obtain ⟨i1, i2⟩ := ih h3
      refine ⟨fun h ks e => ?_, .cons (by show RelV p.2 (DictEntry.val _); rw [h2]; exact hpq.2) i2⟩
      subst e
      exact .cons (as := []) (bs := []) (keyD_reads (h := h) (k := p.1) (by rw [hpq.1]; exact h1)) (i1 h _ rfl)
theorem AtKv.keys {F : Hp} : ∀ {kvs : List (Key × V)} {kds : List (PyData × PyData)}, AtKv F kvs kds → kds.map (·.1) = kvs.map fun p => keyD p.1
  | _, _, .nil => rfl
  | _, _, .cons _ b => by rw [List.map_cons, List.map_cons, b.keys]
theorem AtKv.vals {F : Hp} : ∀ {kvs : List (Key × V)} {kds : List (PyData × PyData)}, AtKv F kvs kds → AtAll F (kvs.map (·.2)) (kds.map (·.2))
  | _, _, .nil => .nil
  | _, _, .cons a b => .cons a b.vals
def Own (F : Hp) (as : List Addr) : Prop := ∀ a ∈ as, ∃ o, F a = some o
theorem Own.app {as bs : List Addr} (h : Own F as) (k : Own F bs) : Own F (as ++ bs) := fun a m => (List.mem_append.mp m).elim (h a) (k a)
theorem Own.nil : Own F [] := fun _ m => absurd m (by simp)
theorem Own.cons {a : Addr} {o : HO} {as : List Addr} (e : F a = some o) (h : Own F as) : Own F (a :: as) := fun b m => (List.mem_cons.mp m).elim (fun z => ⟨o, z ▸ e⟩) (h b)
mutual
theorem At.reads (I : Inv X pins σ H s) (sub : Same F H) : ∀ (d : PyData) (v : V) (u : Value), At F v d → RelV v u → ∃ as, Reads s.heap u d as ∧ Own F as
  | .none, _, _, h, r => by cases h; cases r; exact ⟨_, Reads.none, .nil⟩
  | .bool b, _, _, h, r => by cases h; cases r; exact ⟨_, Reads.bool b, .nil⟩
  | .int i, _, _, h, r => by cases h; obtain ⟨t, rfl⟩ := r; exact ⟨_, Reads.int i t, .nil⟩
  | .str x, _, _, h, r => by cases h; obtain ⟨t, rfl⟩ := r; exact ⟨_, Reads.str x t, .nil⟩
  | .list ds, _, _, h, r => by
    cases h with
    | lst hs ha =>
      cases r
      obtain ⟨its, rv, ⟨o, n, ho, hc, _, hd⟩, _⟩ := I.list (.of (sub _ _ hs))
      obtain ⟨as, hr, ow⟩ := At.readsAll I sub ds _ its ha rv
      exact ⟨_, Reads.list ho hc hd hr, .cons hs ow⟩
  | .tuple ds, _, _, h, r => by
    cases h with
    | tup hs ha =>
      cases r
      obtain ⟨its, rv, ⟨o, ho, hc, n, hd⟩, _⟩ := I.tuple (.of (sub _ _ hs))
      obtain ⟨as, hr, ow⟩ := At.readsAll I sub ds _ its ha rv
      exact ⟨_, Reads.tuple ho hc hd hr, ow⟩
  | .dict kds, _, _, h, r => by
    cases h with
    | dic hs ha =>
      cases r
      obtain ⟨_, _, vs, rel, o, es, ep, ho, hx, hd, _, hp, _⟩ := dk_of I.hok (sub _ _ hs)
      obtain ⟨k1, k2⟩ := dict_parts rel hp
      obtain ⟨bs, rb, ow⟩ := At.readsKv I sub kds _ _ ha k2
      exact ⟨_, Reads.dict ho hx.1 hd (k1 s.heap _ ha.keys) rb, .cons hs (.app .nil ow)⟩
theorem At.readsAll (I : Inv X pins σ H s) (sub : Same F H) : ∀ (ds : List PyData) (vs : List V) (us : List Value), AtAll F vs ds → Vals vs us → ∃ as, ReadsAll s.heap us ds as ∧ Own F as
  | [], _, _, h, r => by cases h; cases r; exact ⟨_, ReadsAll.nil, .nil⟩
  | d :: ds, _, _, h, r => by
    cases h with
    | cons h1 h2 =>
      cases r with
      | cons r1 r2 =>
        obtain ⟨as, q1, o1⟩ := At.reads I sub d _ _ h1 r1
        obtain ⟨bs, q2, o2⟩ := At.readsAll I sub ds _ _ h2 r2
        exact ⟨_, ReadsAll.cons q1 q2, o1.app o2⟩
theorem At.readsKv (I : Inv X pins σ H s) (sub : Same F H) : ∀ (kds : List (PyData × PyData)) (kvs : List (Key × V)) (us : List Value), AtKv F kvs kds → Vals (kvs.map (·.2)) us → ∃ as, ReadsAll s.heap us (kds.map (·.2)) as ∧ Own F as
  | [], _, _, h, r => by cases h; cases r; exact ⟨_, ReadsAll.nil, .nil⟩
  | (k, d) :: ds, _, _, h, r => by
    cases h with
    | cons h1 h2 =>
      cases r with
      | cons r1 r2 =>
        obtain ⟨as, q1, o1⟩ := At.reads I sub d _ _ h1 r1
        obtain ⟨bs, q2, o2⟩ := At.readsKv I sub ds _ _ h2 r2
        exact ⟨_, ReadsAll.cons q1 q2, o1.app o2⟩
end
/-- the region's addresses are none of the system's own dict of modules -/
theorem own_no (I : Inv X pins σ H s) (hs : ∃ o, X.base.get? sysModules = some o) (sub : Same F H) {as : List Addr} (ow : Own F as) : sysModules ∉ as := fun m => by
  obtain ⟨o, ho⟩ := hs
  obtain ⟨x, e⟩ := ow _ m
  have := (I.bs _ o ho).2
  rw [sub _ _ e] at this; cases this
end

/-! ### ==, in, repr by data -/
section
variable {X : Cx} {k : Nat}
def rEqZ : R2 := fun x y H Q => ∃ F d e, Same F H ∧ At F x d ∧ At F y e ∧ SeqAt.shaped d = true ∧ SeqAt.shaped e = true ∧ Q (.bl (PyData.eqv d e)) H
def rNeZ : R2 := fun x y H Q => ∃ F d e, Same F H ∧ At F x d ∧ At F y e ∧ SeqAt.shaped d = true ∧ SeqAt.shaped e = true ∧ Q (.bl (!PyData.eqv d e)) H
theorem op_eqZ (hr : RoomZ k X.A) : OpR X (compareOp .Eq) rEqZ := by
  intro pins s σ H x y v u Q I rx ry ⟨F, d, e, sub, hd, he, sd, se, q⟩
  obtain ⟨as, r1, _⟩ := At.reads I sub d x v hd rx
  obtain ⟨bs, r2, _⟩ := At.reads I sub e y u he ry
  exact SeqAt.compareEq_shaped r1 r2 sd se hr.hu64 ⟨.bl _, H, I, rfl, q⟩
theorem op_neZ (hr : RoomZ k X.A) : OpR X (compareOp .NotEq) rNeZ := by
  intro pins s σ H x y v u Q I rx ry ⟨F, d, e, sub, hd, he, sd, se, q⟩
  obtain ⟨as, r1, _⟩ := At.reads I sub d x v hd rx
  obtain ⟨bs, r2, _⟩ := At.reads I sub e y u he ry
  exact SeqAt.compareNe_shaped r1 r2 sd se hr.hu64 ⟨.bl _, H, I, rfl, q⟩
/-- y in a list or a tuple of data -/
def rInZ (neg : Bool) : R2 := fun x y H Q => ∃ F d es, Same F H ∧ At F x d ∧ (At F y (.list es) ∨ At F y (.tuple es)) ∧ SeqAt.shaped d = true ∧ PyData.canLayAll0 es = true ∧ Q (.bl (if neg then !(es.any fun z => PyData.eqv z d) else es.any fun z => PyData.eqv z d)) H
theorem op_inZ (hr : RoomZ k X.A) : OpR X (compareOp .In) (rInZ false) := by
  intro pins s σ H x y v u Q I rx ry ⟨F, d, es, sub, hd, he, sd, se, q⟩
  obtain ⟨as, r1, _⟩ := At.reads I sub d x v hd rx
  rcases he with he | he
  · obtain ⟨bs, r2, _⟩ := At.reads I sub _ y u he ry
    exact SeqAt.in_list_reads r2 r1 se (SeqAt.canLay_of_shaped sd) (room_in_shaped sd hr.hu65) ⟨.bl _, H, I, rfl, q⟩
  · obtain ⟨bs, r2, _⟩ := At.reads I sub _ y u he ry
    exact SeqAt.in_tuple_reads r2 r1 se (SeqAt.canLay_of_shaped sd) (room_in_shaped sd hr.hu65) ⟨.bl _, H, I, rfl, q⟩
theorem op_notInZ (hr : RoomZ k X.A) : OpR X (compareOp .NotIn) (rInZ true) := by
  intro pins s σ H x y v u Q I rx ry ⟨F, d, es, sub, hd, he, sd, se, q⟩
  obtain ⟨as, r1, _⟩ := At.reads I sub d x v hd rx
  rcases he with he | he
  · obtain ⟨bs, r2, _⟩ := At.reads I sub _ y u he ry
    exact SeqAt.notIn_list_reads r2 r1 se (SeqAt.canLay_of_shaped sd) (room_in_shaped sd hr.hu65) ⟨.bl _, H, I, rfl, q⟩
  · obtain ⟨bs, r2, _⟩ := At.reads I sub _ y u he ry
    exact SeqAt.notIn_tuple_reads r2 r1 se (SeqAt.canLay_of_shaped sd) (room_in_shaped sd hr.hu65) ⟨.bl _, H, I, rfl, q⟩
/-- y in a dict -/
def rInDk (neg : Bool) : R2 := fun y x H Q => ∃ a o, x = .ref a ∧ DGet H a y o ∧ Q (.bl (if neg then !o.isSome else o.isSome)) H
theorem op_inDk (hr : RoomZ k X.A) : OpR X (compareOp .In) (rInDk false) := by
  intro pins s σ H y x u v Q I ry rx ⟨a, o, e, g, q⟩
  subst e
  obtain rfl : v = Value.ref a := rx
  exact d_in hr.hu I g ry fun s' I' => ⟨.bl o.isSome, H, I', rfl, q⟩
theorem op_notInDk (hr : RoomZ k X.A) : OpR X (compareOp .NotIn) (rInDk true) := by
  intro pins s σ H y x u v Q I ry rx ⟨a, o, e, g, q⟩
  subst e
  obtain rfl : v = Value.ref a := rx
  exact d_notIn hr.hu I g ry fun s' I' => ⟨.bl (!o.isSome), H, I', rfl, q⟩
/-- repr of data -/
theorem call_repr (hr : RoomZ k X.A) (hs : ∃ o, X.base.get? sysModules = some o) : CallR X (.builtin "repr") (fun xs H Q => ∃ F v d, xs = [v] ∧ Same F H ∧ At F v d ∧ d.showable = true ∧ d.depth ≤ 60 ∧ d.shown.length ≤ sizeLine ∧ Q (.str d.shown) H) := by
  intro pins s σ H xs us Q I r ⟨F, v, d, e, sub, hd, hsh, hdp, hsz, q⟩
  subst e
  cases r with
  | cons ru rn =>
    rename_i u us
    cases rn
    obtain ⟨as, rd, ow⟩ := At.reads I sub d v u hd ru
    have fin : ∀ h' tk, (∀ b o, s.heap.get? b = some o → h'.get? b = some o) → ∀ t, EP X pins σ Q (.str d.shown t) { s with heap := h', toks := tk } := fun h' tk kk t => ⟨.str d.shown, H, I.kept kk, ⟨t, rfl⟩, q⟩
    have big : ∀ a, u = .ref a → wpAny (model X.prog X.w) X.A (call (.builtin "repr") [u]) (EP X pins σ Q) X.xe s := fun a e => by
      subst e
      exact repr_of_reads' rd hsh (fun _ => own_no I hs sub ow) hr.g (by have := hr.hu64; omega) (fun _ _ e => e) (fun h' t tk kk => fin h' tk kk t) hsz
    cases hd with
    | non => cases ru; simp only [PyData.shown] at fin; exact PySem.P.repr_of_none (fin s.heap _ (fun _ _ e => e) _)
    | bl b => cases ru; simp only [PyData.shown] at fin; exact PySem.P.repr_of_bool (fin s.heap _ (fun _ _ e => e) _)
    | int i => obtain ⟨t, rfl⟩ := ru; simp only [PyData.shown] at fin; exact PySem.P.repr_of_int (by simpa [PyData.showable] using hsh) (fin s.heap _ (fun _ _ e => e) _)
    | str x => obtain ⟨t, rfl⟩ := ru; simp only [PyData.shown] at fin; exact PySem.P.repr_of_str (fin s.heap _ (fun _ _ e => e) _) (by simpa only [PyData.shown] using hsz)
    | lst _ _ => exact big _ ru
    | tup _ _ => exact big _ ru
    | dic _ _ => exact big _ ru
end
end Z

/-! Z4: statements, targets, loops, comprehensions. -/
namespace Z
open PySem PySem.Spec PyProof.Rows L2

/-! ### statements -/
section
variable {X : Cx} {e a b c : Expr} {st : Stmt} {rest sa sb : List Stmt} {Γ : GS} {M : MS} {D : ZD} {pos : Pos}
theorem zs_nil (h : D.nx Γ M) : ZSs X [] Γ M D := fun F ι σ H R S => w_ss pss_nil ⟨F, ι, M, Γ, Ext.refl F ι H, R, S, h⟩
theorem zs_cons (h : ZS X st Γ M { D with nx := fun Γ1 M1 => ZSs X rest Γ1 M1 D }) : ZSs X (st :: rest) Γ M D := fun F ι σ H R S => by
  refine w_ss (pss_cons ps_w pss_w) ((h F ι σ H R S).mono ⟨?_, fun _ _ q => q, fun _ _ q => q, fun _ _ q => q⟩)
  rintro σ1 H1 ⟨F1, ι1, M1, Γ1, E1, R1, S1, q⟩
  exact (q F1 ι1 σ1 H1 R1 S1).mono (ends_ext E1 D)
theorem ZS.mono {D D' : ZD} (h : ZS X st Γ M D) (k1 : ∀ Γ M, D.nx Γ M → D'.nx Γ M) (k2 : ∀ w M, D.rt w M → D'.rt w M) (k3 : ∀ Γ M, D.bk Γ M → D'.bk Γ M) (k4 : ∀ Γ M, D.ct Γ M → D'.ct Γ M) : ZS X st Γ M D' := fun F ι σ H R S =>
  (h F ι σ H R S).mono ⟨fun _ _ ⟨F', ι', M', w, a, b, c, d⟩ => ⟨F', ι', M', w, a, b, c, k1 _ _ d⟩, fun _ _ ⟨F', ι', M', w, a, b, c, d⟩ => ⟨F', ι', M', w, a, b, c, k2 _ _ d⟩,
    fun _ _ ⟨F', ι', M', w, a, b, c, d⟩ => ⟨F', ι', M', w, a, b, c, k3 _ _ d⟩, fun _ _ ⟨F', ι', M', w, a, b, c, d⟩ => ⟨F', ι', M', w, a, b, c, k4 _ _ d⟩⟩
/-- a statement by what holds behind it -/
theorem zs_cut (I : GS → MS → Prop) (h : ZS X st Γ M { D with nx := I }) (k : ∀ Γ1 M1, I Γ1 M1 → ZSs X rest Γ1 M1 D) : ZSs X (st :: rest) Γ M D := zs_cons (ZS.mono h k (fun _ _ q => q) (fun _ _ q => q) fun _ _ q => q)
theorem zs_ret (h : ZE X e Γ M D.rt) : ZS X (.Return (some e) pos) Γ M D := fun F ι σ H R S => w_s (ps_ret pe_w) (h F ι σ H R S)
theorem zs_retN (h : D.rt (.d .none) M) : ZS X (.Return none pos) Γ M D := fun F ι σ H R S => w_s ps_retN (show Post F ι H D.rt .non H from Post.dat R At.non h)
theorem zs_expr (h : ZE X e Γ M fun _ M1 => D.nx Γ M1) (hs : swapsWith e none pos.line X.env = pure false := by rfl) : ZS X (.Expr e pos) Γ M D := fun F ι σ H R S => by
  refine w_s (ps_expr pe_w hs) ((h F ι σ H R S).mono ?_)
  rintro v H1 ⟨F1, ι1, M1, w, E1, R1, r, q⟩
  exact ⟨F1, ι1, M1, Γ, E1, R1, E1.slots S, q⟩
theorem zs_pass (h : D.nx Γ M) : ZS X (.Pass pos) Γ M D := fun F ι σ H R S => w_s ps_pass ⟨F, ι, M, Γ, Ext.refl F ι H, R, S, h⟩
theorem zs_break (h : D.bk Γ M) : ZS X (.Break pos) Γ M D := fun F ι σ H R S => w_s ps_break ⟨F, ι, M, Γ, Ext.refl F ι H, R, S, h⟩
theorem zs_continue (h : D.ct Γ M) : ZS X (.Continue pos) Γ M D := fun F ι σ H R S => w_s ps_continue ⟨F, ι, M, Γ, Ext.refl F ι H, R, S, h⟩
theorem zs_if (h : ZT X c Γ M fun k M1 => if k = true then ZSs X sa Γ M1 D else ZSs X sb Γ M1 D) : ZS X (.If c sa sb pos) Γ M D := fun F ι σ H R S => by
  refine w_s (ps_if pt_w pss_w pss_w) ((h F ι σ H R S).mono ?_)
  rintro k H1 ⟨F1, ι1, M1, E1, R1, q⟩
  cases k with
  | true => exact (show ZSs X sa Γ M1 D from q) F1 ι1 σ H1 R1 (E1.slots S) |>.mono (ends_ext E1 D)
  | false => exact (show ZSs X sb Γ M1 D from q) F1 ι1 σ H1 R1 (E1.slots S) |>.mono (ends_ext E1 D)

/-! ### targets -/
theorem zg_name (i : Nat) {x : Str} {w : W} {Φ : GS → MS → Prop} (h : Φ (Γ.set i (some w)) M) (hN : X.N.Nodup) (hi : X.N[i]? = some x := by rfl) (hx : Loc X.env.scope x := by first | exact Or.inl rfl | exact Or.inr rfl)
    (hf : X.fn x = true ∨ X.env.scope.names.lookup x = some .local := by first | exact .inl rfl | exact .inr rfl) : ZG X (.Name x pos) w Γ M Φ := fun F ι σ H v R S r =>
  w_g (pg_name hN hi hx hf) ⟨F, ι, M, _, Ext.refl F ι H, R, S.set i r, h⟩
def ZGs (X : Cx) (ts : List Expr) (ws : List W) (Γ : GS) (M : MS) (Φ : GS → MS → Prop) : Prop := ∀ F ι σ H vs, Rep F H ι M → Slots F ι σ Γ → RWs F ι vs ws → ∃ t, PGs X ts t ∧ t vs σ H (PostG F ι H Φ)
theorem zgs_nil {Φ : GS → MS → Prop} (h : Φ Γ M) : ZGs X [] [] Γ M Φ := fun F ι σ H vs R S r => by
  cases r
  exact ⟨_, pgs_nil, rfl, F, ι, M, Γ, Ext.refl F ι H, R, S, h⟩
/-- the next of several targets is a plain name -/
theorem zgs_name (i : Nat) {x : Str} {w : W} {ws : List W} {ts : List Expr} {Φ : GS → MS → Prop} (h : ZGs X ts ws (Γ.set i (some w)) M Φ) (hN : X.N.Nodup) (hi : X.N[i]? = some x := by rfl) (hx : Loc X.env.scope x := by first | exact Or.inl rfl | exact Or.inr rfl)
    (hf : X.fn x = true ∨ X.env.scope.names.lookup x = some .local := by first | exact .inl rfl | exact .inr rfl)
    (hs : (assignEach (.Name x pos :: ts) X.env).map (·.2) = assign (.Name x pos) X.env :: (assignEach ts X.env).map (·.2) := by rfl) : ZGs X (.Name x pos :: ts) (w :: ws) Γ M Φ := fun F ι σ H vs R S r => by
  cases r with
  | cons r1 r2 =>
    obtain ⟨t, p, q⟩ := h F ι _ H _ R (S.set i r1) r2
    exact ⟨_, pgs_cons (pg_name hN hi hx hf) p hs, _, _, rfl, q⟩
theorem zg_tup {es : List Expr} {k : Nat} {ds : List PyData} {Φ : GS → MS → Prop} {n : Nat} (hc : X.calm = true) (h : ZGs X es (ds.map .d) Γ M Φ) (hl : ds.length = n)
    (hn : (assignEach es X.env).length = n := by rfl) (hst : (assignEach es X.env).findIdx? (·.1) = none := by rfl) : ZG X (.Tuple es k pos) (.d (.tuple ds)) Γ M Φ := fun F ι σ H v R S r => by
  obtain ⟨p, vs, rfl, f, ra⟩ := At.tup_ r
  obtain ⟨t, pg, q⟩ := h F ι σ H vs R S (RWs.of ra)
  exact w_g (pg_tup hc pg hn hst) ⟨p, vs, rfl, .of (R.sub _ _ f), by rw [ra.len]; exact hl, q⟩
/-- x = e -/
theorem zs_set (i : Nat) {x : Str} {pos' : Pos} (h : ZE X e Γ M fun w M1 => D.nx (Γ.set i (some w)) M1) (hN : X.N.Nodup) (hi : X.N[i]? = some x := by rfl) (hx : Loc X.env.scope x := by first | exact Or.inl rfl | exact Or.inr rfl)
    (hs : swapsWith e (some (.Name x pos')) pos.line X.env = pure false := by rfl) (hf : X.fn x = true ∨ X.env.scope.names.lookup x = some .local := by first | exact .inl rfl | exact .inr rfl) : ZS X (.Assign [.Name x pos'] e pos) Γ M D := fun F ι σ H R S => by
  refine w_s (ps_set hN hi hx pe_w hs hf) ((h F ι σ H R S).mono ?_)
  rintro v H1 ⟨F1, ι1, M1, w, E1, R1, r, q⟩
  exact ⟨F1, ι1, M1, _, E1, R1, (E1.slots S).set i r, q⟩
/-- target = e -/
theorem zs_asg {tg : Expr} (h : ZE X e Γ M fun w M1 => ZG X tg w Γ M1 D.nx) (hs : swapsWithSole [tg] e pos.line X.env = pure false := by rfl) (hw : swappedStores [tg] e X.env = pure none := by rfl)
    (h1 : (assignEach [tg] X.env).map (·.2) = [assign tg X.env] := by rfl) : ZS X (.Assign [tg] e pos) Γ M D := fun F ι σ H R S => by
  refine w_s (ps_asg pe_w pg_w hs hw h1) ((h F ι σ H R S).mono ?_)
  rintro v H1 ⟨F1, ι1, M1, w, E1, R1, r, q⟩
  exact wG.mono (q F1 ι1 σ H1 v R1 (E1.slots S) r) fun _ _ p => PostG.ext E1 p
/-- a, b = x, y with plain local names -/
theorem zs_par (i j : Nat) {x y : Str} {px py pt : Pos} {kt k2 pt2} (hc : X.calm = true) (h : ZE X a Γ M fun v M1 => ZE X b Γ M1 fun w M2 => D.nx ((Γ.set i (some v)).set j (some w)) M2) (hN : X.N.Nodup) (hi : X.N[i]? = some x := by rfl) (hj : X.N[j]? = some y := by rfl) (hij : i ≠ j := by decide)
    (hx : X.env.scope.names.lookup x = some .local := by rfl) (hy : X.env.scope.names.lookup y = some .local := by rfl)
    (hw : swappedStores [.Tuple [.Name x px, .Name y py] kt pt] (.Tuple [a, b] k2 pt2) X.env = pure (some [x, y]) := by rfl)
    (hs : swapsWithSole [.Tuple [.Name x px, .Name y py] kt pt] (.Tuple [a, b] k2 pt2) pos.line X.env = pure false := by rfl)
    (hs1 : starEach [a, b] X.env = (false, eval a X.env) :: starEach [b] X.env := by rfl) (hs2 : starEach [b] X.env = (false, eval b X.env) :: starEach [] X.env := by rfl) :
    ZS X (.Assign [.Tuple [.Name x px, .Name y py] kt pt] (.Tuple [a, b] k2 pt2) pos) Γ M D := fun F ι σ H R S => by
  have ha : ZA X [a, b] Γ M fun ws M2 => ∃ v w, ws = [v, w] ∧ D.nx ((Γ.set i (some v)).set j (some w)) M2 := za_cons (h.mono fun v M1 q => za_cons (q.mono fun w M2 q2 => za_nil ⟨v, w, rfl, q2⟩) hs2) hs1
  refine w_s (ps_par hc hN hi hj hij hx hy pa_w hw hs) ((ha F ι σ H R S).mono ?_)
  rintro vs H1 ⟨F1, ι1, M1, ws, E1, R1, r, v, w, rfl, q⟩
  cases r with
  | cons r1 r2 =>
    cases r2 with
    | cons r2 r3 =>
      cases r3
      exact ⟨_, _, rfl, F1, ι1, M1, _, E1, R1, ((E1.slots S).set i r1).set j r2, q⟩
end

/-! ### what is walked -/
structure Grow (F H F' H' : Hp) : Prop where
  same : Same F F'
  hs : Same H H'
  sub : Same F' H'
  nw : ∀ a o, F' a = some o → F a = none → H a = none
theorem Grow.refl {F H : Hp} (s : Same F H) : Grow F H F H := ⟨Same.refl F, Same.refl H, s, fun a o e n => by rw [n] at e; cases e⟩
theorem Rep.grow {F H F' H' : Hp} {ι : List Addr} {M : MS} (R : Rep F H ι M) (g : Grow F H F' H') : Ext F ι H F' ι H' ∧ Rep F' H' ι M := by
  refine ⟨⟨g.same, ⟨[], by simp⟩, fun a o e _ => g.hs a o e, fun a h n => absurd h n, fun a o e n => .inl (g.nw a o e n), fun a od u e => g.hs a _ e⟩, g.sub, R.len, R.nd, fun a h => ?_, fun k a mo h1 h2 => ?_⟩
  · obtain ⟨o, e⟩ := R.tr a h
    exact ⟨o, g.hs a o e⟩
  · rcases R.at_ k a mo h1 h2 with z | ⟨z1, x, z2, z3⟩
    · exact .inl z
    · refine .inr ⟨?_, x, g.hs a x z2, z3.up g.same ⟨[], by simp⟩⟩
      cases e : F' a with
      | none => rfl
      | some o =>
        rw [g.nw a o e z1] at z2; cases z2
/-- what has been seen stands: the region, and what is frozen -/
structure Kp (F H F' H' : Hp) : Prop where
  s : Same F F'
  z : ∀ a od u, H a = some (.frz od u) → H' a = some (.frz od u)
theorem Kp.refl {F H : Hp} : Kp F H F H := ⟨Same.refl F, fun _ _ _ h => h⟩
theorem Kp.step {F H F1 H1 F2 H2 : Hp} {ι1 ι2 : List Addr} (k : Kp F H F1 H1) (E : Ext F1 ι1 H1 F2 ι2 H2) : Kp F H F2 H2 := ⟨k.s.trans E.same, fun a od u h => E.fz a od u (k.z a od u h)⟩
theorem Kp.put {F H F1 H1 : Hp} {L : Addr} {o : HO} (k : Kp F H F1 H1) (n : H L = none) : Kp F H F1 (upd H1 L o) := ⟨k.s, fun a od u h => by rw [upd_ne (ne_of_none h n)]; exact k.z a od u h⟩
theorem Kp.put1 {F H F1 H1 : Hp} {L : Addr} {o : HO} (k : Kp F H F1 H1) (n : H1 L = none) : Kp F H F1 (upd H1 L o) := ⟨k.s, fun a od u h => by rw [upd_ne (ne_of_none (k.z a od u h) n)]; exact k.z a od u h⟩
/-- the iterator yields these data, one after another, whatever happens meanwhile -/
def Yld (F H1 : Hp) (J : It) (ds : List PyData) : Prop := ∀ F' H, Kp F H1 F' H → Same F' H → ∀ i : Nat,
  (∀ d, ds[i]? = some d → J.go i H ∧ ∀ x H', J.yld i H x H' → ∃ F2, Grow F' H F2 H' ∧ At F2 x d) ∧ (ds.length ≤ i → J.stop i H)
def ZI (X : Cx) (tg it : Expr) (Γ : GS) (M : MS) (Ψ : List PyData → MS → Prop) : Prop := ∀ F ι σ H, Rep F H ι M → Slots F ι σ Γ →
  wI X tg it σ H fun J H1 => ∃ F1 ι1 M1 ds, Ext F ι H F1 ι1 H1 ∧ Rep F1 H1 ι1 M1 ∧ Yld F1 H1 J ds ∧ Ψ ds M1
theorem yld_list {K : PySem.W.Frag} {F H1 : Hp} {a : Addr} {vs : List V} {ds : List PyData} (f : F a = some (.lst vs)) (r : AtAll F vs ds) : Yld F H1 (Itl K a) ds := fun F' H s1 s2 i => by
  have hq : SqL K H a vs := .of (s2 _ _ (s1.s _ _ f))
  refine ⟨fun d e => ?_, fun h => ⟨vs, hq, by rw [r.len]; exact h⟩⟩
  obtain ⟨y, e1, ry⟩ := r.get e
  refine ⟨⟨vs, y, hq, e1⟩, fun x H' ⟨eH, fx⟩ => ?_⟩
  subst eH
  have : x = y := Option.some.inj ((fx vs hq).symm.trans e1)
  subst this
  exact ⟨F', .refl s2, ry.up s1.s⟩
theorem yld_tup {K : PySem.W.Frag} {F H1 : Hp} {a : Addr} {vs : List V} {ds : List PyData} (f : F a = some (.tup vs)) (r : AtAll F vs ds) : Yld F H1 (Itt K a) ds := fun F' H s1 s2 i => by
  have hq : SqT K H a vs := .of (s2 _ _ (s1.s _ _ f))
  refine ⟨fun d e => ?_, fun h => ⟨vs, hq, by rw [r.len]; exact h⟩⟩
  obtain ⟨y, e1, ry⟩ := r.get e
  refine ⟨⟨vs, y, hq, e1⟩, fun x H' ⟨eH, fx⟩ => ?_⟩
  subst eH
  have : x = y := Option.some.inj ((fx vs hq).symm.trans e1)
  subst this
  exact ⟨F', .refl s2, ry.up s1.s⟩
theorem yld_range {F H1 : Hp} {lo : Int} {n : Nat} : Yld F H1 (Itr lo n) ((List.range n).map fun (i : Nat) => .int (lo + i)) := fun F' H s1 s2 i => by
  refine ⟨fun d e => ?_, fun h => (show n ≤ i by simpa using h)⟩
  rw [List.getElem?_map] at e
  by_cases hi : i < n
  · rw [List.getElem?_range hi] at e
    cases e
    refine ⟨hi, fun x H' ⟨eH, ex⟩ => ?_⟩
    subst eH ex
    exact ⟨F', .refl s2, .int _⟩
  · rw [List.getElem?_eq_none (by simpa using hi)] at e; cases e
section
variable {X : Cx} {tg l e e2 : Expr} {Γ : GS} {M : MS} {Ψ : List PyData → MS → Prop} {pos p : Pos}
/-- a list or a tuple is walked -/
def iSeq (K : PySem.W.Frag) (tl : TE) : TI := fun σ H R => tl σ H fun x H1 => ∃ a, x = .ref a ∧ (((∃ xs, SqL K H1 a xs) ∧ R (Itl K a) H1) ∨ ((∃ xs, SqT K H1 a xs) ∧ R (Itt K a) H1))
theorem pi_seq {tl : TE} (hl : PE X l tl) : PI X tg l (iSeq X.K tl) := by
  refine ⟨fun pins s σ H R I h => ?_⟩
  refine thn (hl.run pins s σ H _ I h) fun v s1 ⟨x, H1, I1, r1, a, e, q⟩ => ?_
  subst e
  obtain rfl : v = Value.ref a := r1
  have fin : ∀ b ∈ [s1.heap.objs.size], FpOk X pins H1 b := fun b hb => by
    rw [List.mem_singleton.mp hb]
    exact I1.fpOk (Nat.le_refl _) (I1.hok.fresh (Nat.le_refl _))
  rcases q with ⟨⟨xs, hq⟩, q⟩ | ⟨⟨xs, hq⟩, q⟩
  · obtain ⟨its, _, p, _⟩ := I1.list hq
    refine wpAny_pyIter_list p.isList ⟨s1.heap.objs.size, [s1.heap.objs.size], _, _, H1, rfl, ?_, turn_list a _, ⟨_, Heap.get?_push_size _ rfl, rfl, rfl⟩, fin, q⟩
    exact I1.kept (t' := s1.toks) fun b o e => Heap.get?_push_of_some _ e
  · obtain ⟨its, _, p, _⟩ := I1.tuple hq
    refine wpAny_pyIter_tuple (show s1.heap.IsTuple a its.toArray from p) ⟨s1.heap.objs.size, [s1.heap.objs.size], _, _, H1, rfl, ?_, turn_tuple a _, ⟨_, Heap.get?_push_size _ rfl, rfl, rfl⟩, fin, q⟩
    exact I1.kept (t' := s1.toks) fun b o e => Heap.get?_push_of_some _ e
def SeqW (w : W) (M : MS) (Ψ : List PyData → MS → Prop) : Prop := ∃ ds, (w = .d (.list ds) ∨ w = .d (.tuple ds)) ∧ Ψ ds M
theorem SeqW.list {ds : List PyData} (h : Ψ ds M) : SeqW (.d (.list ds)) M Ψ := ⟨ds, .inl rfl, h⟩
theorem SeqW.tuple {ds : List PyData} (h : Ψ ds M) : SeqW (.d (.tuple ds)) M Ψ := ⟨ds, .inr rfl, h⟩
theorem zi_seq (h : ZE X l Γ M fun w M1 => SeqW w M1 Ψ) : ZI X tg l Γ M Ψ := fun F ι σ H R S => by
  refine w_i (pi_seq pe_w) ((h F ι σ H R S).mono ?_)
  rintro v H1 ⟨F1, ι1, M1, w, E1, R1, r, ds, hw, q⟩
  rcases hw with rfl | rfl
  · obtain ⟨a, vs, rfl, f, ra⟩ := At.lst_ r
    exact ⟨a, rfl, .inl ⟨⟨vs, .of (R1.sub _ _ f)⟩, F1, ι1, M1, ds, E1, R1, yld_list f ra, q⟩⟩
  · obtain ⟨a, vs, rfl, f, ra⟩ := At.tup_ r
    exact ⟨a, rfl, .inr ⟨⟨vs, .of (R1.sub _ _ f)⟩, F1, ι1, M1, ds, E1, R1, yld_tup f ra, q⟩⟩
theorem zi_range1 (hm : X.mg "range" = none) (h : ZE X e Γ M fun w M1 => ∃ n : Nat, w = .d (.int n) ∧ n < 2 ^ 62 ∧ Ψ ((List.range n).map fun (i : Nat) => .int i) M1) (hg : Gl X "range" := by rfl)
    (hs : starEach [e] X.env = (false, eval e X.env) :: starEach [] X.env := by rfl) : ZI X tg (.Call (.Name "range" p) [e] [] pos) Γ M Ψ := fun F ι σ H R S => by
  have ha : ZA X [e] Γ M fun ws M1 => ∃ n : Nat, ws = [.d (.int n)] ∧ n < 2 ^ 62 ∧ Ψ ((List.range n).map fun (i : Nat) => .int i) M1 := za_cons (h.mono fun w M1 ⟨n, e1, hn, q⟩ => za_nil ⟨n, by rw [e1], hn, q⟩) hs
  refine w_i (pi_range1 hg hm pa_w hs) ((ha F ι σ H R S).mono ?_)
  rintro vs H1 ⟨F1, ι1, M1, ws, E1, R1, r, n, rfl, hn, q⟩
  cases r with
  | cons r1 r2 =>
    cases r2
    have hn' : (n : Int) < 2 ^ 62 := by exact_mod_cast hn
    refine ⟨n, by rw [At.int_ r1], by omega, hn', F1, ι1, M1, _, E1, R1, yld_range, ?_⟩
    simpa using q
end
end Z

/-! Z5: for loops, list and dict comprehensions. -/
namespace Z
open PySem PySem.Spec PyProof.Rows L2
section
variable {X : Cx} {tg it elt : Expr} {body : List Stmt} {Γ : GS} {M : MS} {D : ZD} {pos : Pos} {Φ : W → MS → Prop}
/-- the turns of a loop: I holds ahead of turn i -/
structure ForT (X : Cx) (tg : Expr) (body : List Stmt) (D : ZD) (ds : List PyData) (Γ : GS) (M : MS) (I : Nat → GS → MS → Prop) : Prop where
  zero : I 0 Γ M
  turn : ∀ i d Γ1 M1, ds[i]? = some d → I i Γ1 M1 → ZG X tg (.d d) Γ1 M1 fun Γ2 M2 => ZSs X body Γ2 M2 { D with nx := I (i + 1), ct := I (i + 1), bk := D.nx }
  done : ∀ Γ1 M1, I ds.length Γ1 M1 → D.nx Γ1 M1
theorem zs_for (hp : PassesOwn (model X.prog X.w) X.A X.env X.xe) (hc : X.calm = true) (h : ZI X tg it Γ M fun ds M0 => ∃ I, ForT X tg body D ds Γ M0 I) (hs : ∀ x, foldedSetIterable it X.env x = pure x := by intro _; rfl) :
    ZS X (.For tg it body [] pos) Γ M D := fun F ι σ H R S => by
  refine w_s (ps_for hp hc pi_w pg_w pss_w hs) ((h F ι σ H R S).mono ?_)
  rintro J H1 ⟨F1, ι1, M1, ds, E1, R1, yd, I, T⟩
  have W : Nat → St → Hp → Prop := fun i σ' H' => True
  let W : Nat → St → Hp → Prop := fun i σ' H' => i ≤ ds.length ∧ ∃ F' ι' M' Γ', Ext F ι H F' ι' H' ∧ Kp F1 H1 F' H' ∧ Rep F' H' ι' M' ∧ Slots F' ι' σ' Γ' ∧ I i Γ' M'
  refine ⟨fun i m σ' H' => m = ds.length - i ∧ W i σ' H', ⟨ds.length, rfl, Nat.zero_le _, F1, ι1, M1, Γ, E1, Kp.refl, R1, E1.slots S, T.zero⟩, ?_⟩
  rintro i m σ' H' ⟨rfl, hi, F2, ι2, M2, Γ2, E2, s2, R2, S2, hI⟩
  have y := yd F2 H' s2 R2.sub i
  by_cases hlt : i < ds.length
  · obtain ⟨go, st⟩ := y.1 _ (List.getElem?_eq_getElem hlt)
    refine .inr ⟨go, W (i + 1), fun σ3 H3 w3 => ⟨ds.length - (i + 1), by omega, rfl, w3⟩, fun x H3 hy => ?_⟩
    obtain ⟨F3, g, ax⟩ := st x H3 hy
    obtain ⟨E3, R3⟩ := R2.grow g
    refine wG.mono (T.turn i _ Γ2 M2 (List.getElem?_eq_getElem hlt) hI F3 ι2 σ' H3 x R3 (E3.slots S2) ax) ?_
    rintro σ4 H4 ⟨F4, ι4, M4, Γ4, E4, R4, S4, hb⟩
    have E14 := (E2.trans E3).trans E4
    have s4 : Kp F1 H1 F4 H4 := (s2.step E3).step E4
    refine wSs.mono (hb F4 ι4 σ4 H4 R4 S4) ⟨?_, fun v H5 p => Post.ext E14 p, fun σ5 H5 p => PostG.ext E14 p, ?_⟩
    · rintro σ5 H5 ⟨F5, ι5, M5, Γ5, E5, R5, S5, q⟩
      exact ⟨hlt, F5, ι5, M5, Γ5, E14.trans E5, s4.step E5, R5, S5, q⟩
    · rintro σ5 H5 ⟨F5, ι5, M5, Γ5, E5, R5, S5, q⟩
      exact ⟨hlt, F5, ι5, M5, Γ5, E14.trans E5, s4.step E5, R5, S5, q⟩
  · have e : i = ds.length := by omega
    subst e
    exact .inl ⟨y.2 (Nat.le_refl _), F2, ι2, M2, Γ2, E2, R2, S2, T.done Γ2 M2 hI⟩

/-! ### the block of a comprehension: its own names forgotten -/
def wipeG (Γ : GS) : List Nat → GS
  | [] => Γ
  | v :: vs => (wipeG Γ vs).set v none
theorem Slots.wipe {F : Hp} {ι : List Addr} {σ : St} (h : Slots F ι σ Γ) : ∀ vs : List Nat, Slots F ι (L2.wipe σ vs) (wipeG Γ vs)
  | [] => h
  | v :: vs => by
    have ih := Slots.wipe h vs
    refine ⟨by unfold L2.wipe wipeG; rw [List.length_set, List.length_set]; exact ih.len, fun i w e => ?_⟩
    unfold wipeG at e
    unfold L2.wipe
    by_cases hi : v = i
    · subst hi
      by_cases hl : v < (wipeG Γ vs).length
      · rw [List.getElem?_set_self hl] at e; cases e
      · rw [List.getElem?_eq_none (by simpa using hl)] at e; cases e
    · rw [List.getElem?_set_ne hi] at e
      rw [List.getElem?_set_ne hi]
      exact ih.get i w e
theorem wipe_set {σ : St} {i : Nat} {x : Option V} : ∀ {vs : List Nat}, i ∈ vs → L2.wipe (σ.set i x) vs = L2.wipe σ vs
  | [], h => absurd h (by simp)
  | v :: vs, h => by
    have out : ∀ {us : List Nat}, i ∉ us → L2.wipe (σ.set i x) us = (L2.wipe σ us).set i x := by
      intro us
      induction us with
      | nil => intro _; rfl
      | cons u us ih =>
        intro hn
        have h1 : i ≠ u := fun e => hn (by simp [e])
        have h2 : i ∉ us := fun e => hn (by simp [e])
        unfold L2.wipe
        rw [ih h2, List.set_comm _ _ h1]
    unfold L2.wipe
    by_cases hm : i ∈ vs
    · rw [wipe_set hm]
    · have e : i = v := by
        rcases List.mem_cons.mp h with e | e
        · exact e
        · exact absurd e hm
      subst e
      rw [out hm]
      simp
theorem wipe_get (σ : St) (i : Nat) : ∀ vs : List Nat, (L2.wipe σ vs)[i]? = if i ∈ vs then (if i < σ.length then some none else none) else σ[i]?
  | [] => by simp [L2.wipe]
  | v :: vs => by
    have ih := wipe_get σ i vs
    have hl := L2.wipe_length σ vs
    unfold L2.wipe
    by_cases e : v = i
    · subst e
      rw [if_pos (by simp)]
      by_cases hi : v < σ.length
      · rw [List.getElem?_set_self (by rw [hl]; exact hi), if_pos hi]
      · rw [List.getElem?_eq_none (by simp [hl]; omega), if_neg hi]
    · rw [List.getElem?_set_ne e, ih]
      by_cases m : i ∈ vs
      · rw [if_pos m, if_pos (List.mem_cons_of_mem _ m)]
      · rw [if_neg m, if_neg (fun z => (List.mem_cons.mp z).elim (fun q => e q.symm) m)]
theorem wipe_wipe (σ : St) (vs : List Nat) : L2.wipe (L2.wipe σ vs) vs = L2.wipe σ vs := by
  refine List.ext_getElem? fun i => ?_
  rw [wipe_get, wipe_get, L2.wipe_length]
  by_cases m : i ∈ vs
  · rw [if_pos m, if_pos m]
  · rw [if_neg m, if_neg m]
/-- the block of a comprehension as it runs -/
structure Blk where
  s : Shared
  H : Hp
  C : Addr
  cl : List (Str × Addr)
  fp : List Addr
abbrev bk (X : Cx) (scope : Scope) (B : Blk) : Cx := X.blk B.s B.H scope (compEnvC scope B.cl B.C X.env) B.fp
/-- a target within a block -/
def ZGB (X : Cx) (vs : List Nat) (tg : Expr) (w : W) (Γ : GS) (M : MS) (Φ : GS → MS → Prop) : Prop := ∀ F ι σ H v, Rep F H ι M → Slots F ι σ Γ → RW F ι v w →
  wG X tg v σ H fun σ' H' => L2.wipe σ' vs = L2.wipe σ vs ∧ PostG F ι H Φ σ' H'
theorem zgb_name (i : Nat) {vs : List Nat} {x : Str} {w : W} {Φ : GS → MS → Prop} (h : Φ (Γ.set i (some w)) M) (hN : X.N.Nodup) (hi : X.N[i]? = some x := by rfl) (hx : Loc X.env.scope x := by first | exact Or.inl rfl | exact Or.inr rfl) (hm : i ∈ vs := by decide)
    (hf : X.fn x = true ∨ X.env.scope.names.lookup x = some .local := by first | exact .inl rfl | exact .inr rfl) : ZGB X vs (.Name x pos) w Γ M Φ := fun F ι σ H v R S r =>
  w_g (pg_name hN hi hx hf) ⟨wipe_set hm, F, ι, M, _, Ext.refl F ι H, R, S.set i r, h⟩
def ZGBs (X : Cx) (vs : List Nat) (ts : List Expr) (ws : List W) (Γ : GS) (M : MS) (Φ : GS → MS → Prop) : Prop := ∀ F ι σ H us, Rep F H ι M → Slots F ι σ Γ → RWs F ι us ws →
  ∃ t, PGs X ts t ∧ t us σ H fun σ' H' => L2.wipe σ' vs = L2.wipe σ vs ∧ PostG F ι H Φ σ' H'
theorem zgbs_nil {vs : List Nat} {Φ : GS → MS → Prop} (h : Φ Γ M) : ZGBs X vs [] [] Γ M Φ := fun F ι σ H us R S r => by
  cases r
  exact ⟨_, pgs_nil, rfl, rfl, F, ι, M, Γ, Ext.refl F ι H, R, S, h⟩
theorem zgbs_name (i : Nat) {vs : List Nat} {x : Str} {w : W} {ws : List W} {ts : List Expr} {Φ : GS → MS → Prop} (h : ZGBs X vs ts ws (Γ.set i (some w)) M Φ) (hN : X.N.Nodup) (hi : X.N[i]? = some x := by rfl) (hx : Loc X.env.scope x := by first | exact Or.inl rfl | exact Or.inr rfl) (hm : i ∈ vs := by decide)
    (hf : X.fn x = true ∨ X.env.scope.names.lookup x = some .local := by first | exact .inl rfl | exact .inr rfl)
    (hs : (assignEach (.Name x pos :: ts) X.env).map (·.2) = assign (.Name x pos) X.env :: (assignEach ts X.env).map (·.2) := by rfl) : ZGBs X vs (.Name x pos :: ts) (w :: ws) Γ M Φ := fun F ι σ H us R S r => by
  cases r with
  | @cons u _ _ _ r1 r2 =>
    obtain ⟨t, p, q⟩ := h F ι (σ.set i (some u)) H _ R (S.set i r1) r2
    rw [wipe_set hm] at q
    exact ⟨_, pgs_cons (pg_name hN hi hx hf) p hs, _, _, rfl, q⟩
theorem zgb_tup {vs : List Nat} {es : List Expr} {k : Nat} {ds : List PyData} {Φ : GS → MS → Prop} {n : Nat} (hc : X.calm = true) (h : ZGBs X vs es (ds.map .d) Γ M Φ) (hl : ds.length = n)
    (hn : (assignEach es X.env).length = n := by rfl) (hst : (assignEach es X.env).findIdx? (·.1) = none := by rfl) : ZGB X vs (.Tuple es k pos) (.d (.tuple ds)) Γ M Φ := fun F ι σ H v R S r => by
  obtain ⟨p, us, rfl, f, ra⟩ := At.tup_ r
  obtain ⟨t, pg, q⟩ := h F ι σ H us R S (RWs.of ra)
  exact w_g (pg_tup hc pg hn hst) ⟨p, us, rfl, .of (R.sub _ _ f), by rw [ra.len]; exact hl, q⟩
/-- a clause's tests -/
def wTs (X : Cx) (ifs : List Expr) : TT := fun σ H Q => ∀ pins s, Inv X pins σ H s →
  wpAny (model X.prog X.w) X.A (forIn ifs true fun c r => if r = true then do let ok ← isTrue c X.env (eval c X.env); pure (ForInStep.yield ok) else pure (ForInStep.yield r)) (TP X pins σ Q) X.xe s
theorem pts_w {ifs : List Expr} : PTs X ifs (wTs X ifs) := ⟨fun pins s _ _ _ I h => h pins s I⟩
def ZTs (X : Cx) (ifs : List Expr) (Γ : GS) (M : MS) (Φ : Bool → MS → Prop) : Prop := ∀ F ι σ H, Rep F H ι M → Slots F ι σ Γ → wTs X ifs σ H (PostT F ι H Φ)
theorem zts_nil {Ψ : Bool → MS → Prop} (h : Ψ true M) : ZTs X [] Γ M Ψ := fun F ι σ H R S pins s I => pts_nil.run pins s σ H _ I ⟨F, ι, M, Ext.refl F ι H, R, h⟩
theorem zts_one {c : Expr} {Ψ : Bool → MS → Prop} (h : ZT X c Γ M Ψ) : ZTs X [c] Γ M Ψ := fun F ι σ H R S pins s I => (pts_one pt_w).run pins s σ H _ I (h F ι σ H R S)
theorem wTs.mono {ifs : List Expr} {σ : St} {H : Hp} {Q Q' : Bool → Hp → Prop} (h : wTs X ifs σ H Q) (k : ∀ b H', Q b H' → Q' b H') : wTs X ifs σ H Q' := fun pins s I =>
  thn (h pins s I) fun _ _ ⟨H', I', q⟩ => ⟨H', I', k _ H' q⟩

/-! ### list comprehensions -/
structure LcT (X : Cx) (vs : List Nat) (tg elt : Expr) (ifs : List Expr) (scope : Scope) (ds : List PyData) (Γ : GS) (M : MS) (I : Nat → List W → MS → Prop) (Φ : List W → MS → Prop) : Prop where
  zero : I 0 [] M
  turn : ∀ i d acc M1, ds[i]? = some d → I i acc M1 → ∀ B, ZGB (bk X scope B) vs tg (.d d) (wipeG Γ vs) M1 fun Γ2 M2 => ∀ B, ZTs (bk X scope B) ifs Γ2 M2 fun b M3 =>
      if b = true then ∀ B, ZE (bk X scope B) elt Γ2 M3 fun y M4 => acc.length < sizeLine ∧ I (i + 1) (acc ++ [y]) M4 else I (i + 1) acc M3
  done : ∀ acc M1, I ds.length acc M1 → Φ acc M1
def bG (X : Cx) (scope : Scope) (tg : Expr) : TG := fun v σ H Q => ∀ B, wG (bk X scope B) tg v σ H Q
def bTs (X : Cx) (scope : Scope) (ifs : List Expr) : TT := fun σ H Q => ∀ B, wTs (bk X scope B) ifs σ H Q
def bE (X : Cx) (scope : Scope) (e : Expr) : TE := fun σ H Q => ∀ B, wE (bk X scope B) e σ H Q
theorem pg_b {scope : Scope} (s : Shared) (H0 : Hp) (C : Addr) (cl : List (Str × Addr)) (fp : List Addr) : PG (X.blk s H0 scope (compEnvC scope cl C X.env) fp) tg (bG X scope tg) := ⟨fun pins s' _ _ _ u _ I r h => h ⟨s, H0, C, cl, fp⟩ pins s' u I r⟩
theorem pts_b {scope : Scope} {ifs : List Expr} (s : Shared) (H0 : Hp) (C : Addr) (cl : List (Str × Addr)) (fp : List Addr) : PTs (X.blk s H0 scope (compEnvC scope cl C X.env) fp) ifs (bTs X scope ifs) := ⟨fun pins s' _ _ _ I h => h ⟨s, H0, C, cl, fp⟩ pins s' I⟩
theorem pe_b {scope : Scope} (s : Shared) (H0 : Hp) (C : Addr) (cl : List (Str × Addr)) (fp : List Addr) : PE (X.blk s H0 scope (compEnvC scope cl C X.env) fp) elt (bE X scope elt) := ⟨fun pins s' _ _ _ I h => h ⟨s, H0, C, cl, fp⟩ pins s' I⟩
/-- a turn's end keeps what stands outside -/
theorem out_kept {F H F' H' : Hp} {ι ι' : List Addr} {L : Addr} {o : HO} (E : Ext F ι H F' ι' H') (hL : H L = some o) (nF : F L = none) (nι : L ∉ ι) : H' L = some o ∧ F' L = none ∧ L ∉ ι' := by
  refine ⟨E.kp L o hL nι, ?_, fun z => ?_⟩
  · cases e : F' L with
    | none => rfl
    | some u =>
      rcases E.nw L u e nF with z | z
      · rw [hL] at z; cases z
      · exact absurd z nι
  · have := E.fr L z nι
    rw [hL] at this; cases this
/-- an outside list is written -/
theorem out_put {F H : Hp} {ι : List Addr} {M : MS} {L : Addr} {o : HO} (R : Rep F H ι M) (nF : F L = none) (nι : L ∉ ι) : Rep F (upd H L o) ι M := by
  have ne : ∀ a ∈ ι, a ≠ L := fun a h z => by rw [z] at h; exact nι h
  refine ⟨fun b x e => ?_, R.len, R.nd, fun a h => ?_, fun k a mo h1 h2 => ?_⟩
  · have : b ≠ L := fun z => by rw [z, nF] at e; cases e
    rw [upd_ne this]; exact R.sub b x e
  · obtain ⟨x, e⟩ := R.tr a h
    exact ⟨x, by rw [upd_ne (ne a h)]; exact e⟩
  · rcases R.at_ k a mo h1 h2 with z | ⟨z1, x, z2, z3⟩
    · exact .inl z
    · exact .inr ⟨z1, x, by rw [upd_ne (ne a (List.mem_of_getElem? h1))]; exact z2, z3⟩
theorem RWs.app {F : Hp} {ι : List Addr} : ∀ {vs us : List V} {ws xs : List W}, RWs F ι vs ws → RWs F ι us xs → RWs F ι (vs ++ us) (ws ++ xs)
  | _, _, _, _, .nil, h => h
  | _, _, _, _, .cons a b, h => .cons a (RWs.app b h)
theorem lc_read {ifs : List Expr} {scope : Scope} {vs : List Nat} {F : Hp} {ι : List Addr} {σ : St} {H : Hp} {Φl : List W → MS → Prop} {Q : VK} (S : Slots F ι σ Γ) (R : Rep F H ι M)
    (h : ZI X tg it Γ M fun ds M1 => ∃ I, LcT X vs tg elt ifs scope ds Γ M1 I Φl)
    (fin : ∀ L H' F' ι' M' acc us, Ext F ι H F' ι' H' → Rep F' H' ι' M' → H' L = some (.lst us) → RWs F' ι' us acc → F' L = none → L ∉ ι' → H L = none → Φl acc M' → Q (.ref L) H') :
    tLc (wI X tg it) (bG X scope tg) (bTs X scope ifs) (bE X scope elt) vs σ H Q := by
  refine (h F ι σ H R S).mono ?_
  rintro J H1 ⟨F1, ι1, M1, ds, E1, R1, yd, I, T⟩ L nL
  have nF1 : F1 L = none := R1.sub.free nL
  have nι1 : L ∉ ι1 := fun z => by
    obtain ⟨o, e⟩ := R1.tr L z
    rw [nL] at e; cases e
  have nι : L ∉ ι := fun z => by
    obtain ⟨r, rfl⟩ := E1.pre
    exact nι1 (List.mem_append_left r z)
  have nH : H L = none := by
    cases e : H L with
    | none => rfl
    | some o => rw [E1.kp L o e nι] at nL; cases nL
  let W : Nat → Hp → Prop := fun i H' => i ≤ ds.length ∧ ∃ F' ι' M' acc us, Ext F ι H F' ι' H' ∧ Kp F1 H1 F' H' ∧ Rep F' H' ι' M' ∧ H' L = some (.lst us) ∧ RWs F' ι' us acc ∧ F' L = none ∧ L ∉ ι' ∧ I i acc M'
  have put : ∀ {F' ι' H' o}, Ext F ι H F' ι' H' → Ext F ι H F' ι' (upd H' L o) := fun E => ⟨E.same, E.pre, fun a x e m => by
    rw [upd_ne (ne_of_none e nH)]; exact E.kp a x e m, E.fr, E.nw, fun a od u e => by rw [upd_ne (ne_of_none e nH)]; exact E.fz a od u e⟩
  refine ⟨fun i m H' => m = ds.length - i ∧ W i H', ⟨ds.length, rfl, Nat.zero_le _, F1, ι1, M1, [], [], put E1, Kp.refl.put nL, out_put R1 nF1 nι1, upd_same, .nil, nF1, nι1, T.zero⟩, ?_⟩
  rintro i m H' ⟨rfl, hi, F2, ι2, M2, acc, us, E2, s2, R2, hL, ha, nF2, nι2, hI⟩
  have y := yd F2 H' s2 R2.sub i
  by_cases hlt : i < ds.length
  · obtain ⟨go, st⟩ := y.1 _ (List.getElem?_eq_getElem hlt)
    refine .inr ⟨go, W (i + 1), fun H3 w3 => ⟨ds.length - (i + 1), by omega, rfl, w3⟩, fun x H3 hy B => ?_⟩
    obtain ⟨F3, g, ax⟩ := st x H3 hy
    obtain ⟨E3, R3⟩ := R2.grow g
    have tn := T.turn i _ acc M2 (List.getElem?_eq_getElem hlt) hI
    refine wG.mono (tn B F3 ι2 _ H3 x R3 ((E3.slots (E2.slots S)).wipe vs) ax) ?_
    rintro σ4 H4 ⟨hw, F4, ι4, M4, Γ4, E4, R4, S4, h4⟩
    rw [wipe_wipe] at hw
    obtain ⟨hL3, nF3, nι3⟩ := out_kept E3 hL nF2 nι2
    obtain ⟨hL4, nF4, nι4⟩ := out_kept E4 hL3 nF3 nι3
    refine ⟨hw, fun B => wTs.mono (h4 B F4 ι4 σ4 H4 R4 S4) ?_⟩
    rintro b H5 ⟨F5, ι5, M5, E5, R5, h5⟩
    obtain ⟨hL5, nF5, nι5⟩ := out_kept E5 hL4 nF4 nι4
    have E25 := (((E2.trans E3).trans E4).trans E5)
    have s5 : Kp F1 H1 F5 H5 := ((s2.step E3).step E4).step E5
    have ha5 : RWs F5 ι5 us acc := ((E3.trans E4).trans E5).rws ha
    cases b with
    | false =>
      rw [if_neg Bool.false_ne_true] at h5 ⊢
      exact ⟨hlt, F5, ι5, M5, acc, us, E25, s5, R5, hL5, ha5, nF5, nι5, h5⟩
    | true =>
      rw [if_pos rfl] at h5 ⊢
      refine fun B => wE.mono (h5 B F5 ι5 σ4 H5 R5 (E5.slots S4)) ?_
      rintro z H6 ⟨F6, ι6, M6, zw, E6, R6, rz, hz, h6⟩
      obtain ⟨hL6, nF6, nι6⟩ := out_kept E6 hL5 nF5 nι5
      have ha6 := E6.rws ha5
      exact ⟨us, hL6, by rw [ha.len]; exact hz, hlt, F6, ι6, M6, acc ++ [zw], us ++ [z], put (E25.trans E6), (s5.step E6).put nL, out_put R6 nF6 nι6, upd_same, ha6.app (.cons rz .nil), nF6, nι6, h6⟩
  · have e : i = ds.length := by omega
    subst e
    exact .inl ⟨y.2 (Nat.le_refl _), fin L H' F2 ι2 M2 acc us E2 R2 hL ha nF2 nι2 nH (T.done acc M2 hI)⟩
/-- an outside object becomes data, or a cell -/
theorem out_lay {F H F' H' : Hp} {ι ι' : List Addr} {M : MS} {L : Addr} {o : HO} (E : Ext F ι H F' ι' H') (R : Rep F' H' ι' M) (hL : H' L = some o) (nF : F' L = none) (nι : L ∉ ι') (nH : H L = none) : Ext F ι H (upd F' L o) ι' H' ∧ Rep (upd F' L o) H' ι' M := by
  have sF : Same F' (upd F' L o) := fun b x e => by rw [upd_ne (ne_of_none e nF)]; exact e
  refine ⟨⟨E.same.trans sF, E.pre, E.kp, E.fr, fun a x e n => ?_, E.fz⟩, fun b x e => ?_, R.len, R.nd, R.tr, fun k a mo h1 h2 => ?_⟩
  · by_cases z : a = L
    · rw [z]; exact .inl nH
    · rw [upd_ne z] at e; exact E.nw a x e n
  · by_cases z : b = L
    · subst z; rw [upd_same] at e; cases e; exact hL
    · rw [upd_ne z] at e; exact R.sub b x e
  · rcases R.at_ k a mo h1 h2 with z | ⟨z1, x, z2, z3⟩
    · exact .inl z
    · have : a ≠ L := fun z => by rw [z] at h1; exact nι (List.mem_of_getElem? h1)
      exact .inr ⟨by rw [upd_ne this]; exact z1, x, z2, z3.up sF ⟨[], by simp⟩⟩
theorem out_cell {F H F' H' : Hp} {ι ι' : List Addr} {M : MS} {L : Addr} {o : HO} {mo : MO} (E : Ext F ι H F' ι' H') (R : Rep F' H' ι' M) (hL : H' L = some o) (nF : F' L = none) (nι : L ∉ ι') (nH : H L = none) (h : MOk F' ι' mo o) :
    Ext F ι H F' (ι' ++ [L]) H' ∧ Rep F' H' (ι' ++ [L]) (M ++ [mo]) := by
  refine ⟨⟨E.same, ?_, E.kp, fun a m n => ?_, E.nw, E.fz⟩, R.sub, by simp [R.len], ?_, fun a m => ?_, fun k a mo' h1 h2 => ?_⟩
  · obtain ⟨r, rfl⟩ := E.pre
    exact ⟨r ++ [L], by rw [List.append_assoc]⟩
  · rcases List.mem_append.mp m with z | z
    · exact E.fr a z n
    · rw [List.mem_singleton.mp z]; exact nH
  · exact List.nodup_append.mpr ⟨R.nd, by simp, fun a ha b hb z => by subst z; rw [List.mem_singleton.mp hb] at ha; exact nι ha⟩
  · rcases List.mem_append.mp m with z | z
    · exact R.tr a z
    · rw [List.mem_singleton.mp z]; exact ⟨o, hL⟩
  · by_cases hk : k < ι'.length
    · rw [List.getElem?_append_left hk] at h1
      rw [List.getElem?_append_left (by rw [← R.len]; exact hk)] at h2
      rcases R.at_ k a mo' h1 h2 with z | ⟨z1, x, z2, z3⟩
      · exact .inl z
      · exact .inr ⟨z1, x, z2, z3.up (Same.refl F') ⟨[L], rfl⟩⟩
    · have hk1 : k = ι'.length := by
        have := (List.getElem?_eq_some_iff.mp h1).1
        simp at this
        omega
      subst hk1
      rw [List.getElem?_append_right (Nat.le_refl _), Nat.sub_self] at h1
      rw [R.len, List.getElem?_append_right (Nat.le_refl _), Nat.sub_self] at h2
      cases h1
      cases h2
      exact .inr ⟨nF, o, hL, h.up (Same.refl F') ⟨[L], rfl⟩⟩
variable {ifs : List Expr} {scope : Scope}
/-- [elt for tg in it if ..] that is never changed -/
theorem ze_lc {own : List (Str × Nat)} (hc : X.calm = true) (hN : X.N.Nodup) (ok : BlkOk X.N X.env.scope scope own)
    (h : ZI X tg it Γ M fun ds M1 => ∃ I, LcT X (own.map (·.2)) tg elt ifs scope ds Γ M1 I fun acc M2 => ∃ ys, acc = ys.map .d ∧ Φ (.d (.list ys)) M2) (hs : ∀ x, foldedSetIterable it X.env x = pure x := by intro _; rfl) :
    ZE X (.ListComp elt [⟨tg, it, ifs, 0⟩] scope pos) Γ M Φ := fun F ι σ H R S => by
  refine w_e (pe_lc hc hN pi_w ok pg_b pts_b pe_b hs) (lc_read S R h ?_)
  rintro L H' F' ι' M' acc us E R' hL ha nF nι nH ⟨ys, rfl, φ⟩
  obtain ⟨E2, R2⟩ := out_lay E R' hL nF nι nH
  have sF : Same F' (upd F' L (.lst us)) := fun b x e => by rw [upd_ne (ne_of_none e nF)]; exact e
  exact ⟨_, _, _, .d (.list ys), E2, R2, (show At _ _ _ from .lst upd_same ((RWs.dat ha).up sF)), φ⟩
/-- .. as a new cell -/
theorem ze_lcM {own : List (Str × Nat)} (hc : X.calm = true) (hN : X.N.Nodup) (ok : BlkOk X.N X.env.scope scope own)
    (h : ZI X tg it Γ M fun ds M1 => ∃ I, LcT X (own.map (·.2)) tg elt ifs scope ds Γ M1 I fun acc M2 => Φ (.m M2.length) (M2 ++ [.lst acc])) (hs : ∀ x, foldedSetIterable it X.env x = pure x := by intro _; rfl) :
    ZE X (.ListComp elt [⟨tg, it, ifs, 0⟩] scope pos) Γ M Φ := fun F ι σ H R S => by
  refine w_e (pe_lc hc hN pi_w ok pg_b pts_b pe_b hs) (lc_read S R h ?_)
  rintro L H' F' ι' M' acc us E R' hL ha nF nι nH φ
  obtain ⟨E2, R2⟩ := out_cell (mo := .lst acc) E R' hL nF nι nH ⟨us, rfl, ha⟩
  exact ⟨_, _, _, .m M'.length, E2, R2, RW.m (by rw [← R'.len, List.getElem?_append_right (Nat.le_refl _)]; simp), φ⟩
/-- y = [..], y a plain local -/
theorem zs_setLc (i : Nat) {y : Str} {py spos : Pos} {own : List (Str × Nat)} (hc : X.calm = true) (hN : X.N.Nodup) (ok : BlkOk X.N X.env.scope scope own)
    (h : ZI X tg it Γ M fun ds M1 => ∃ I, LcT X (own.map (·.2)) tg elt ifs scope ds Γ M1 I fun acc M2 => ∃ ys, acc = ys.map .d ∧ D.nx (Γ.set i (some (.d (.list ys)))) M2)
    (hsw : swapsWith (.ListComp elt [⟨tg, it, ifs, 0⟩] scope pos) (some (.Name y py)) spos.line X.env = pure true) (hy : X.N[i]? = some y := by rfl) (hyl : X.env.scope.names.lookup y = some .local := by rfl) (hs : ∀ x, foldedSetIterable it X.env x = pure x := by intro _; rfl) :
    ZS X (.Assign [.Name y py] (.ListComp elt [⟨tg, it, ifs, 0⟩] scope pos) spos) Γ M D := fun F ι σ H R S => by
  refine w_s (ps_setLc hc hN hy hyl hsw pi_w ok pg_b pts_b pe_b hs) (lc_read S R h ?_)
  rintro L H' F' ι' M' acc us E R' hL ha nF nι nH ⟨ys, rfl, φ⟩
  obtain ⟨E2, R2⟩ := out_lay E R' hL nF nι nH
  have sF : Same F' (upd F' L (.lst us)) := fun b x e => by rw [upd_ne (ne_of_none e nF)]; exact e
  exact ⟨_, _, _, _, E2, R2, (E2.slots S).set i (show RW _ _ _ (.d (.list ys)) from .lst upd_same ((RWs.dat ha).up sF)), φ⟩
end
end Z

/-! Z6: the call of a def of the text, its promise over plain data. -/
namespace Z
open PySem PySem.Spec PyProof.Rows L2
/-- what stands around all of the text -/
structure Top where
  P : Program
  w : World
  K : PySem.W.Frag
  mg : Str → Option Value
  base : Heap
/-- what a def does: the arguments, the cells, the wish -/
abbrev ZSp := List W → MS → (W → MS → Prop) → Prop
def zsp (n : Nat) (S : ZSp) : Sp := fun vs H Q _ => vs.length = n ∧ ∃ F ι M ws Φ, Rep F H ι M ∧ RWs F ι vs ws ∧ S ws M Φ ∧ ∀ v H', Post F ι H Φ v H' → Q v H'
/-- the promise of a function object, where nothing is being shown around the call -/
structure FnG (T : Top) (CX : CXT) (k : Nat) (f : Addr) (fd : FuncData) (ps : List Str) (sp : Sp) : Prop where
  len : ∀ vs H Q E, sp vs H Q E → vs.length = ps.length
  run : ∀ (A : Around) (outer : List Env) (s : Shared) (H : Hp) (args : Args) (us : List Value) (vs : List V) (Q : VK) (E : XK), RoomZ k A → Env0 T.P T.w T.K T.mg T.base A outer s H →
    BindsTo s fd args (ps.zip us) → Vals vs us → sp vs H Q E → codeAny (model T.P T.w) A (.call (.ref f) args) (CR CX outer T.P T.w H s Q E) s
theorem FnG.mono {T : Top} {CX : CXT} {j k : Nat} {f : Addr} {fd : FuncData} {ps : List Str} {sp : Sp} (g : FnG T CX j f fd ps sp) (h : j ≤ k) : FnG T CX k f fd ps sp :=
  ⟨g.len, fun A outer s H args us vs Q E hr => g.run A outer s H args us vs Q E (hr.mono h)⟩
/-- the def x of the text keeps the promise S -/
def Fz (T : Top) (k : Nat) (x : Str) (ps : List Str) (S : ZSp) : Prop :=
  ∃ f fd, T.mg x = some (.ref f) ∧ PySem.W.keepIn T.K (.ref f) = true ∧ Binds T.K fd ps [] ∧ FnG T CX0 k f fd ps (zsp ps.length S)
theorem Fz.mono {T : Top} {j k : Nat} {x : Str} {ps : List Str} {S : ZSp} (h : Fz T j x ps S) (l : j ≤ k) : Fz T k x ps S :=
  let ⟨f, fd, a, b, c, d⟩ := h; ⟨f, fd, a, b, c, d.mono l⟩
structure On (T : Top) (X : Cx) : Prop where
  P : X.prog = T.P
  w : X.w = T.w
  K : X.K = T.K
  mg : X.mg = T.mg
  base : X.base = T.base
section
variable {T : Top} {X : Cx} {x : Str} {ps : List Str} {S : ZSp} {k : Nat} {e : Expr} {es : List Expr} {p pos : Pos} {Γ : GS} {M : MS} {Φ : W → MS → Prop}
theorem ze_call (C : Fz T k x ps S) (o : On T X) (hr : RoomZ k X.A) (h : ZA X (e :: es) Γ M fun ws M1 => ws.length = ps.length ∧ S ws M1 Φ) (hg : Gl X x := by rfl) (hdb : (x == ("__debug__" : Str)) = false := by decide)
    (he : starEach (e :: es) X.env = (false, eval e X.env) :: starEach es X.env := by rfl) (hpl : (backTo pos (starEach es X.env)).any (·.1) = false := by rfl) :
    ZE X (.Call (.Name x p) (e :: es) [] pos) Γ M Φ := fun F ι σ H R Sl pins s I => by
  obtain ⟨f, fd, hm, hk, hb, G⟩ := C
  obtain ⟨oP, ow, oK, omg, ob⟩ := o
  refine wpAny_Call_Name_kw (ld_glob I hg (by rw [omg]; exact hm) ?_ hdb)
  refine PySem.W.callWith_K (h₀ := X.base) I.ok.mod.kin (by rw [oK]; exact hk) (thn (h F ι σ H R Sl pos pins s I) ?_) he hpl
  rintro us s1 ⟨vs, H1, I1, r, F1, ι1, M1, ws, E1, R1, rw', hl, hS⟩
  refine ⟨I1.kIn, wpAny_call ?_⟩
  have e0 := I1.env0
  have hv : vs.length = ps.length := by rw [rw'.len]; exact hl
  have hu : us.length = ps.length := by rw [← r.length]; exact hv
  have kin : T.K.In s1.heap := by rw [← oK]; exact I1.kIn
  have hb' := hb s1 us kin (by simpa using hu)
  rw [List.append_nil] at hb'
  rw [oP, ow] at e0 ⊢
  rw [oK, omg, ob] at e0
  refine codeAny_mono (G.run X.A X.stack s1 H1 ⟨us, []⟩ us vs (Post F ι H Φ) E0 hr e0 hb' r ⟨hv, F1, ι1, M1, ws, Φ, R1, rw', hS, fun v H' q => Post.ext E1 q⟩) fun r s' hq => ?_
  cases r with
  | error e => exact False.elim hq
  | ok fl =>
    cases fl with
    | ret u => exact I1.after (by rw [oP, ow]; exact hq)
    | next => exact False.elim hq
    | brk => exact False.elim hq
    | cont => exact False.elim hq
end
/-- the def stands in the text at the module's name x -/
def DefAt (T : Top) (x : Str) (st : Stmt) : Prop := ∃ f fd, Fun T.K x x st f fd ∧ T.mg x = some (.ref f)
/-- the context of its body -/
abbrev dcx (T : Top) (x : Str) (st : Stmt) (N : List Str) (f : Addr) (cdv : Value) (A : Around) (outer : List Env) (s : Shared) (H : Hp) (E : XK) : Cx :=
  (cxOf CX0 T.P T.w T.K T.mg T.base N x (defScope st) f cdv A outer s H E).nox
def startG (N : List Str) (ws : List W) : GS := ws.map some ++ List.replicate (N.length - ws.length) none
theorem slots_start {F : Hp} {ι : List Addr} {N : List Str} {vs : List V} {ws : List W} (r : RWs F ι vs ws) : Slots F ι (L2.start N vs) (startG N ws) := by
  have hl := r.len
  refine ⟨by unfold L2.start startG; rw [List.length_append, List.length_append, List.length_map, List.length_map, List.length_replicate, List.length_replicate, hl], fun i w e => ?_⟩
  unfold startG at e
  by_cases hi : i < ws.length
  · rw [List.getElem?_append_left (by simpa using hi), List.getElem?_map] at e
    unfold L2.start
    rw [List.getElem?_append_left (by simpa [hl] using hi), List.getElem?_map]
    clear hl hi
    induction r generalizing i with
    | nil => simp at e
    | cons a b ih =>
      cases i with
      | zero => simp at e ⊢; subst e; exact a
      | succ i => simpa using ih i (by simpa using e)
  · rw [List.getElem?_append_right (by simpa using hi), List.getElem?_replicate] at e
    split at e <;> cases e
/-- THE RULE for a def -/
theorem fz_of {T : Top} {x : Str} {st : Stmt} {N ps : List Str} {k : Nat} {S : ZSp} (D : DefAt T x st) (Sc : FnScope N ps (defScope st))
    (hb : ∀ (kV doc pm : Value) (an : Option Addr) (cdv ct : Value) (us : List Value), us.length = ps.length → bindArgs (PySem.W.fnOf x x (defArgs st) (defBody st) (defScope st) .none kV doc pm an cdv ct) ⟨us, []⟩ = pure (ps.zip us))
    (body : ∀ (f : Addr) (cdv : Value) (A : Around) (outer : List Env) (s : Shared) (H : Hp) (E : XK) (ws : List W) (M : MS) (Φ : W → MS → Prop), RoomZ k (A.deeper (envOfC x (defScope st) s.heap.objs.size f cdv)) → ws.length = ps.length → S ws M Φ →
      ZSs (dcx T x st N f cdv A outer s H E) (defBody st) (startG N ws) M { nx := fun _ M' => Φ (.d .none) M', rt := Φ }) : Fz T (k + 1) x ps S := by
  obtain ⟨f, fd, F, hmg⟩ := D
  have hbi := F.binds hb
  refine ⟨f, fd, hmg, F.kp, hbi, ⟨fun vs H Q E h => h.1, fun A outer s H args us vs Q E hr e0 hB r hsp => ?_⟩⟩
  obtain ⟨oc, od, kV, doc, pm, an, cdv, ct, osl, rfl, lk, hcd⟩ := F.ex
  obtain ⟨hl, F1, ι, M, ws, Φ, R, rws, hS, hQ⟩ := hsp
  have KX : T.K.In s.heap := e0.mod.kin.keeps fun b o e => (e0.bs b o e).1
  have lim : s.heap.NoLimit := e0.mod.nolimit.keeps fun b o e => (e0.bs b o e).1
  have kinds : ∀ y ∈ ps.zip us, (defScope st).names.lookup y.1 = some .local ∨ ((defScope st).names.lookup y.1 = some .cell ∧ ((cellsFrom (s.heap.objs.size + 1) (defScope st).names []).lookup y.1).isSome = true) := by
    rintro ⟨n, v⟩ hy
    exact (Sc.par n (List.of_mem_zip hy).1).imp id fun q => ⟨q, PySem.W.cellsFrom_some _ _ _ (.inl q)⟩
  refine codeAny_call_function hr.r.depth (KX _ _ lk) rfl Sc.co Sc.gen rfl (PySem.W.codeRec_of KX hcd) (hB _ _ _ _ ?_)
  refine wpAny_newFunctionEnv_cells Sc.kind kinds fun env he s1 x' => ?_
  subst he
  refine ⟨lim.keeps x'.toInCall.keep, codeAny_func ?_⟩
  have b := body f cdv A outer s H E ws M Φ (hr.deeper _) (by rw [← rws.len]; exact hl) hS F1 ι _ H R (slots_start (N := N) rws)
  have I : Inv (cxOf CX0 T.P T.w T.K T.mg T.base N x (defScope st) f cdv A outer s H E) [] (L2.start N vs) H s1 := inv_start Sc hr.r.hd e0 hl r x'
  have fin : ∀ {σ' : St} {H' : Hp} {v : V} {u : Value} {s' : Shared}, Inv (dcx T x st N f cdv A outer s H E) [] σ' H' s' → RelV v u → Post F1 ι H Φ v H' → CE outer T.P T.w H s Q u s' :=
    fun J rv q => ⟨_, _, J.os, J.bare, J.base, J.hok, rv, hQ _ _ q⟩
  refine wpAny_mono (b [] s1 (I.wish _)) (fun fl s' hs => ?_) fun e s' hs => False.elim hs
  cases fl with
  | ret u =>
    obtain ⟨v, σ', H', J, rv, q⟩ := hs
    exact fin J rv q
  | next =>
    obtain ⟨σ', H', J, F2, ι2, M2, Γ2, E2, R2, _, q⟩ := hs
    exact fin (v := V.non) (u := Value.none) J rfl ⟨F2, ι2, M2, .d .none, E2, R2, At.non, q⟩
  | brk =>
    obtain ⟨_, _, _, F2, ι2, M2, Γ2, E2, R2, _, q⟩ := hs
    exact False.elim q
  | cont =>
    obtain ⟨_, _, _, F2, ι2, M2, Γ2, E2, R2, _, q⟩ := hs
    exact False.elim q
end Z

/-! Z7: subscripts, slices, methods, calls of built-in functions. -/
namespace Z
open PySem PySem.Spec PyProof.Rows L2
section
variable {X : Cx} {k : Nat} {a b e f : Expr} {es : List Expr} {pos p apos cpos : Pos} {Γ : GS} {M : MS} {Φ : W → MS → Prop}

/-! ### ==, in -/
def EqW (x y : W) (M : MS) (Ψ : Bool → MS → Prop) : Prop := ∃ d e, x = .d d ∧ y = .d e ∧ SeqAt.shaped d = true ∧ SeqAt.shaped e = true ∧ Ψ (PyData.eqv d e) M
theorem zc_eq (hr : RoomZ k X.A) (h : ZE X a Γ M fun x M1 => ZE X b Γ M1 fun y M2 => EqW x y M2 fun r M3 => Φ (.d (.bool r)) M3) : ZC X .Eq a b Γ M Φ :=
  zc (op_eqZ hr) h fun F ι H M v u x y Q R rx ry ψ hQ => by
    obtain ⟨d, e, rfl, rfl, s1, s2, φ⟩ := ψ
    exact ⟨F, d, e, R.sub, rx, ry, s1, s2, hQ _ _ (Post.dat R (.bl _) φ)⟩
theorem zc_ne (hr : RoomZ k X.A) (h : ZE X a Γ M fun x M1 => ZE X b Γ M1 fun y M2 => EqW x y M2 fun r M3 => Φ (.d (.bool (!r))) M3) : ZC X .NotEq a b Γ M Φ :=
  zc (op_neZ hr) h fun F ι H M v u x y Q R rx ry ψ hQ => by
    obtain ⟨d, e, rfl, rfl, s1, s2, φ⟩ := ψ
    exact ⟨F, d, e, R.sub, rx, ry, s1, s2, hQ _ _ (Post.dat R (.bl _) φ)⟩
def lookK {α : Type} (kws : List (Key × α)) (k : Key) : Option α := (kws.find? fun kv => decide (kv.1 = k)).map (·.2)
/-- a dict of data by its keys -/
def dictK (kws : List (Key × PyData)) : PyData := .dict (kws.map fun q => (keyD q.1, q.2))
theorem keyD_inj : ∀ {a b : Key}, keyD a = keyD b → a = b
  | .inl _, .inl _, h => by injection h with h; rw [h]
  | .inr _, .inr _, h => by injection h with h; rw [h]
  | .inl _, .inr _, h => nomatch h
  | .inr _, .inl _, h => nomatch h
theorem AtKv.look {F : Hp} : ∀ {kvs : List (Key × V)} {kws : List (Key × PyData)}, AtKv F kvs (kws.map fun q => (keyD q.1, q.2)) → ∀ k, (∀ d, lookK kws k = some d → ∃ v, valV kvs k = some v ∧ At F v d) ∧ (lookK kws k = none → valV kvs k = none)
  | _, [], h, k => by cases h; exact ⟨fun d e => (nomatch e), fun _ => rfl⟩
  | _, (q, d) :: r, h, k => by
    generalize hz : ((q, d) :: r).map (fun q : Key × PyData => (keyD q.1, q.2)) = z at h
    cases h with
    | nil => cases hz
    | @cons q' v vs d' ds a b =>
      injection hz with h1 h2
      injection h1 with h3 h4
      have e : q = q' := keyD_inj h3
      subst e h4 h2
      obtain ⟨i1, i2⟩ := AtKv.look b k
      by_cases e : q = k
      · subst e
        refine ⟨fun d2 e2 => ?_, fun e2 => ?_⟩
        · simp [lookK] at e2
          subst e2
          exact ⟨v, by simp [valV], a⟩
        · simp [lookK] at e2
      · have e1 : lookK ((q, d) :: r) k = lookK r k := by simp [lookK, List.find?_cons, e]
        have e2 : valV ((q, v) :: vs) k = valV vs k := by simp [valV, List.find?_cons, e]
        rw [e1, e2]
        exact ⟨i1, i2⟩
theorem RKs.look {F : Hp} {ι : List Addr} {k : Key} : ∀ {kvs : List (Key × V)} {kws : List (Key × W)}, RKs F ι kvs kws → (∀ d, lookK kws k = some d → ∃ v, valV kvs k = some v ∧ RW F ι v d) ∧ (lookK kws k = none → valV kvs k = none)
  | _, _, .nil => ⟨fun d e => (nomatch e), fun _ => rfl⟩
  | _, _, .cons (a := q1) (b := q2) (l₁ := r1) (l₂ := r2) h t => by
    obtain ⟨i1, i2⟩ := RKs.look (k := k) t
    obtain ⟨k1, v1⟩ := q1
    obtain ⟨k2, w2⟩ := q2
    obtain ⟨e0, h⟩ := h
    have e0 : k1 = k2 := e0
    subst e0
    by_cases e : k1 = k
    · subst e
      refine ⟨fun d2 e2 => ?_, fun e2 => ?_⟩
      · simp [lookK] at e2
        subst e2
        exact ⟨v1, by simp [valV], h⟩
      · simp [lookK] at e2
    · have e1 : lookK ((k1, w2) :: r2) k = lookK r2 k := by simp [lookK, List.find?_cons, e]
      have e2 : valV ((k1, v1) :: r1) k = valV r1 k := by simp [valV, List.find?_cons, e]
      rw [e1, e2]
      exact ⟨i1, i2⟩
theorem kV_at {F : Hp} {k : Key} {v : V} (h : At F v (keyD k)) : v = kV k := by
  cases k with
  | inl i => exact h.int_
  | inr x => exact h.str_
/-- the item of a dict -/
def GetW (x : W) (k : Key) (M : MS) (o : Option W) : Prop := (∃ kws, x = .d (dictK kws) ∧ o = (lookK kws k).map .d) ∨ ∃ j kws, x = .m j ∧ (M[j]? = some (.dic kws) ∨ M[j]? = some (.dil kws)) ∧ o = lookK kws k
theorem get_ok {F H : Hp} {ι : List Addr} {x : W} {v u : V} {k : Key} {o : Option W} (R : Rep F H ι M) (rx : RW F ι v x) (ru : At F u (keyD k)) (g : GetW x k M o) :
    ∃ a ov, v = .ref a ∧ DGet H a u ov ∧ (∀ w, o = some w → ∃ z, ov = some z ∧ RW F ι z w) ∧ (o = none → ov = none) := by
  have eu := kV_at ru
  subst eu
  rcases g with ⟨kws, rfl, rfl⟩ | ⟨j, kws, rfl, hm, rfl⟩
  · obtain ⟨a, kvs, rfl, f, r⟩ := At.dic_ rx
    obtain ⟨i1, i2⟩ := r.look k
    refine ⟨a, valV kvs k, rfl, .k (R.sub _ _ f), fun w e => ?_, fun e => i2 (by simpa using e)⟩
    cases q : lookK kws k with
    | none => rw [q] at e; cases e
    | some d =>
      rw [q] at e; cases e
      exact i1 d q
  · obtain ⟨a, ha, rfl⟩ := rx
    rcases hm with hm | hm
    · rcases R.at_ j a _ ha hm with z | ⟨_, ob, h1, kvs, rfl, r⟩
      · cases z
      · obtain ⟨i1, i2⟩ := RKs.look (k := k) r
        exact ⟨a, valV kvs k, rfl, .k h1, i1, i2⟩
    · rcases R.at_ j a _ ha hm with z | ⟨_, ob, h1, od, kvs, rfl, r⟩
      · cases z
      · obtain ⟨i1, i2⟩ := RKs.look (k := k) r
        exact ⟨a, valV kvs k, rfl, .inl ⟨kvs, k, .inr ⟨od, h1⟩, rfl, rfl⟩, i1, i2⟩
def InW (x y : W) (M : MS) (Ψ : Bool → MS → Prop) : Prop :=
  (∃ d es, x = .d d ∧ (y = .d (.list es) ∨ y = .d (.tuple es)) ∧ SeqAt.shaped d = true ∧ PyData.canLayAll0 es = true ∧ Ψ (es.any fun z => PyData.eqv z d) M) ∨
  ∃ k o, x = .d (keyD k) ∧ GetW y k M o ∧ Ψ o.isSome M
theorem some_iff {F : Hp} {ι : List Addr} {o : Option W} {ov : Option V} (h1 : ∀ w, o = some w → ∃ z, ov = some z ∧ RW F ι z w) (h2 : o = none → ov = none) : ov.isSome = o.isSome := by
  cases o with
  | none => rw [h2 rfl]; rfl
  | some w => obtain ⟨z, e, _⟩ := h1 w rfl; rw [e]; rfl
theorem zc_in (hr : RoomZ k X.A) (h : ZE X a Γ M fun x M1 => ZE X b Γ M1 fun y M2 => InW x y M2 fun r M3 => Φ (.d (.bool r)) M3) : ZC X .In a b Γ M Φ :=
  zc ((op_inZ hr).or (op_inDk hr)) h fun F ι H M v u x y Q R rx ry ψ hQ => by
    rcases ψ with ⟨d, es, rfl, hy, s1, s2, φ⟩ | ⟨q, o, rfl, g, φ⟩
    · refine .inl ⟨F, d, es, R.sub, rx, ?_, s1, s2, hQ _ _ (Post.dat R (.bl _) φ)⟩
      rcases hy with rfl | rfl
      · exact .inl ry
      · exact .inr ry
    · obtain ⟨c, ov, rfl, dg, i1, i2⟩ := get_ok R ry rx g
      exact .inr ⟨c, ov, rfl, dg, hQ _ _ (Post.dat R (by rw [some_iff i1 i2]; exact .bl _) φ)⟩
theorem zc_notIn (hr : RoomZ k X.A) (h : ZE X a Γ M fun x M1 => ZE X b Γ M1 fun y M2 => InW x y M2 fun r M3 => Φ (.d (.bool (!r))) M3) : ZC X .NotIn a b Γ M Φ :=
  zc ((op_notInZ hr).or (op_notInDk hr)) h fun F ι H M v u x y Q R rx ry ψ hQ => by
    rcases ψ with ⟨d, es, rfl, hy, s1, s2, φ⟩ | ⟨q, o, rfl, g, φ⟩
    · refine .inl ⟨F, d, es, R.sub, rx, ?_, s1, s2, hQ _ _ (Post.dat R (.bl _) φ)⟩
      rcases hy with rfl | rfl
      · exact .inl ry
      · exact .inr ry
    · obtain ⟨c, ov, rfl, dg, i1, i2⟩ := get_ok R ry rx g
      exact .inr ⟨c, ov, rfl, dg, hQ _ _ (Post.dat R (by rw [some_iff i1 i2]; exact .bl _) φ)⟩

/-! ### x[i] -/
def rIxDk : R2 := fun x y H Q => ∃ c v, x = .ref c ∧ DGet H c y (some v) ∧ Q v H
theorem ix_dk (hr : RoomZ k X.A) : IxR X rIxDk := by
  intro value slice pins s σ H x y v u Q I rx ry ⟨c, z, e, g, q⟩ hs
  subst e
  obtain rfl : v = Value.ref c := rx
  have tyd := dict_typeIs I g
  unfold subscriptTail
  refine wpAny_bind ?_
  rw [getitemInPython_of_ne tyd.not_modules]
  refine wpAny_bind (wpAny_specialOf tyd PySem.F.slot_dict_getitem.lookup ?_)
  have fin : wpAny (model X.prog X.w) X.A (subscripted slice false (.ref c) u) (fun r s3 => wpAny (model X.prog X.w) X.A (letTemporaryGo value (.ref c) r >>= fun _ => pure r) (EP X pins σ Q) X.xe s3) X.xe s := by
    rw [hs]
    refine wpAny_operating (wpAny_mono (d_getItem hr.hu I g ry (Q := EP X pins σ Q) fun w' s3 I3 rw' => ⟨z, H, I3, rw', q⟩) (fun r s3 h3 => wpAny_bind (wpAny_letTemporaryGo (wpAny_pure h3))) fun _ _ x => x)
  first
    | exact wpAny_pure (wpAny_bind fin)
    | exact wpAny_bind (wpAny_pure (wpAny_bind fin))
    | exact wpAny_bind fin
def IxW (x y : W) (M : MS) (Φ : W → MS → Prop) : Prop :=
  (∃ ds i d, (x = .d (.list ds) ∨ x = .d (.tuple ds)) ∧ y = .d (.int i) ∧ atI ds i = some d ∧ Φ (.d d) M) ∨
  (∃ j ws i w, x = .m j ∧ M[j]? = some (.lst ws) ∧ y = .d (.int i) ∧ atI ws i = some w ∧ Φ w M) ∨ ∃ q w, y = .d (keyD q) ∧ GetW x q M (some w) ∧ Φ w M
theorem IxW.list {ds : List PyData} {i : Int} {d : PyData} (h : atI ds i = some d) (φ : Φ (.d d) M) : IxW (.d (.list ds)) (.d (.int i)) M Φ := .inl ⟨ds, i, d, .inl rfl, rfl, h, φ⟩
theorem IxW.tuple {ds : List PyData} {i : Int} {d : PyData} (h : atI ds i = some d) (φ : Φ (.d d) M) : IxW (.d (.tuple ds)) (.d (.int i)) M Φ := .inl ⟨ds, i, d, .inr rfl, rfl, h, φ⟩
theorem IxW.cell {j : Nat} {ws : List W} {i : Int} {w : W} (hm : M[j]? = some (.lst ws)) (h : atI ws i = some w) (φ : Φ w M) : IxW (.m j) (.d (.int i)) M Φ := .inr (.inl ⟨j, ws, i, w, rfl, hm, rfl, h, φ⟩)
theorem IxW.get {x : W} {q : Key} {w : W} (g : GetW x q M (some w)) (φ : Φ w M) : IxW x (.d (keyD q)) M Φ := .inr (.inr ⟨q, w, rfl, g, φ⟩)
theorem pair_get {α β : Type} {R : α → β → Prop} : ∀ {xs : List α} {ys : List β} {j : Nat} {y : β}, Paired R xs ys → ys[j]? = some y → ∃ x, xs[j]? = some x ∧ R x y
  | _, _, _, _, .nil, e => by simp at e
  | _, _, 0, _, .cons a _, e => by simp at e; subst e; exact ⟨_, rfl, a⟩
  | _, _, j + 1, _, .cons _ b, e => pair_get (j := j) b e
theorem at_rel {α β : Type} {R : α → β → Prop} {xs : List α} {ys : List β} {i : Int} {y : β} (h : Paired R xs ys) (e : atI ys i = some y) : ∃ x, atI xs i = some x ∧ R x y := by
  unfold atI at e ⊢
  rw [Paired.length h]
  cases q : ixN ys.length i with
  | none => rw [q] at e; cases e
  | some j =>
    rw [q] at e
    exact pair_get h e
theorem AtAll.paired {F : Hp} : ∀ {vs : List V} {ds : List PyData}, AtAll F vs ds → Paired (At F) vs ds
  | _, _, .nil => .nil
  | _, _, .cons a b => .cons a b.paired
theorem ze_ix (hr : RoomZ k X.A) (h : ZE X a Γ M fun x M1 => ZE X b Γ M1 fun y M2 => IxW x y M2 Φ) (hs : PlainIx b := by exact fun _ _ => rfl) : ZE X (.Subscript a b pos) Γ M Φ :=
  z2 (pe_ix (ix_seq.or (ix_dk hr)) pe_w pe_w hs) h fun F ι H M v u x y Q R rx ry ψ hQ => by
    rcases ψ with ⟨ds, i, d, hx, rfl, e, φ⟩ | ⟨j, ws, i, w, rfl, hm, rfl, e, φ⟩ | ⟨q, w, rfl, g, φ⟩
    · rcases hx with rfl | rfl
      · obtain ⟨c, vs, rfl, f, r⟩ := At.lst_ rx
        obtain ⟨z, e1, rz⟩ := at_rel r.paired e
        exact .inl (.inl ⟨c, vs, i, z, rfl, At.int_ ry, .of (R.sub _ _ f), e1, hQ _ _ (Post.dat R rz φ)⟩)
      · obtain ⟨c, vs, rfl, f, r⟩ := At.tup_ rx
        obtain ⟨z, e1, rz⟩ := at_rel r.paired e
        exact .inl (.inr (.inl ⟨c, vs, i, z, rfl, At.int_ ry, .of (R.sub _ _ f), e1, hQ _ _ (Post.dat R rz φ)⟩))
    · obtain ⟨c, hc, rfl⟩ := rx
      rcases R.at_ j c _ hc hm with z | ⟨_, ob, h1, vs, rfl, r⟩
      · cases z
      · obtain ⟨z, e1, rz⟩ := at_rel r e
        exact .inl (.inl ⟨c, vs, i, z, rfl, At.int_ ry, .of h1, e1, hQ _ _ (Post.ret R rz φ)⟩)
    · obtain ⟨c, ov, rfl, dg, i1, _⟩ := get_ok R rx ry g
      obtain ⟨z, rfl, rz⟩ := i1 w rfl
      exact .inr ⟨c, z, rfl, dg, hQ _ _ (Post.ret R rz φ)⟩

/-! ### slices -/
def cutD {α : Type} (xs : List α) (lo hi : Option Int) : List α := (xs.drop (HT.sIx xs.length 0 lo)).take (HT.sIx xs.length xs.length hi - HT.sIx xs.length 0 lo)
theorem cut_rel {F : Hp} {vs : List V} {ds : List PyData} (r : AtAll F vs ds) (lo hi : Option Int) : AtAll F (cutV vs lo hi) (cutD ds lo hi) := by
  unfold cutV cutD
  rw [r.len]
  exact (r.drop _).take _
def ZP (X : Cx) (e : Option Expr) (Γ : GS) (M : MS) (Ψ : Option Int → MS → Prop) : Prop := ∀ F ι σ H, Rep F H ι M → Slots F ι σ Γ → ∃ t, PO X e t ∧ t σ H fun o H' => ∃ F' ι' M', Ext F ι H F' ι' H' ∧ Rep F' H' ι' M' ∧ Ψ o M'
theorem zp_none {Ψ : Option Int → MS → Prop} (h : Ψ none M) : ZP X none Γ M Ψ := fun F ι σ H R S => ⟨_, po_none, F, ι, M, Ext.refl F ι H, R, h⟩
theorem zp_some {Ψ : Option Int → MS → Prop} (h : ZE X e Γ M fun w M1 => ∃ i, w = .d (.int i) ∧ Ψ (some i) M1) : ZP X (some e) Γ M Ψ := fun F ι σ H R S => by
  refine ⟨_, po_some pe_w, (h F ι σ H R S).mono ?_⟩
  rintro v H1 ⟨F1, ι1, M1, w, E1, R1, r, i, rfl, q⟩
  exact ⟨i, At.int_ r, F1, ι1, M1, E1, R1, q⟩
def wP (X : Cx) (e : Option Expr) : TO := fun σ H Q => ∀ pins s, Inv X pins σ H s → wpAny (model X.prog X.w) X.A (evalPart e X.env) (fun u s' => ∃ o H', Inv X pins σ H' s' ∧ IsPart u o ∧ Q o H') X.xe s
theorem po_w {e : Option Expr} : PO X e (wP X e) := ⟨fun pins s _ _ _ I h => h pins s I⟩
def SlW (x : W) (lo hi : Option Int) (M : MS) (Φ : W → MS → Prop) : Prop := (∃ ds, x = .d (.list ds) ∧ Φ (.d (.list (cutD ds lo hi))) M) ∨ ∃ ds, x = .d (.tuple ds) ∧ Φ (.d (.tuple (cutD ds lo hi))) M
theorem SlW.list {ds : List PyData} {lo hi : Option Int} (h : Φ (.d (.list (cutD ds lo hi))) M) : SlW (.d (.list ds)) lo hi M Φ := .inl ⟨ds, rfl, h⟩
theorem SlW.tuple {ds : List PyData} {lo hi : Option Int} (h : Φ (.d (.tuple (cutD ds lo hi))) M) : SlW (.d (.tuple ds)) lo hi M Φ := .inr ⟨ds, rfl, h⟩
theorem ze_sl {lo hi : Option Expr} {p2 : Pos} (h : ZE X a Γ M fun x M1 => ZP X lo Γ M1 fun l M2 => ZP X hi Γ M2 fun u M3 => SlW x l u M3 Φ) : ZE X (.Subscript a (.Slice lo hi none p2) pos) Γ M Φ := fun F ι σ H R S => by
  refine w_e (pe_slice (sl_list.or sl_tupA) pe_w po_w po_w) ((h F ι σ H R S).mono ?_)
  rintro v H1 ⟨F1, ι1, M1, x, E1, R1, rx, hl⟩
  intro pins s I
  obtain ⟨t1, p1, q1⟩ := hl F1 ι1 σ H1 R1 (E1.slots S)
  refine thn (p1.run pins s σ H1 _ I q1) ?_
  rintro u1 s1 ⟨o1, H2, I2, ip1, F2, ι2, M2, E2, R2, hu⟩
  refine ⟨o1, H2, I2, ip1, fun pins s I => ?_⟩
  obtain ⟨t2, p2, q2⟩ := hu F2 ι2 σ H2 R2 ((E1.trans E2).slots S)
  refine thn (p2.run pins s σ H2 _ I q2) ?_
  rintro u2 s2 ⟨o2, H3, I3, ip2, F3, ι3, M3, E3, R3, hS⟩
  refine ⟨o2, H3, I3, ip2, ?_⟩
  have E13 := (E1.trans E2).trans E3
  have rx3 := (E2.trans E3).rw rx
  have up : ∀ z H', Post F3 ι3 H3 Φ z H' → Post F ι H Φ z H' := fun z H' q => Post.ext E13 q
  rcases hS with ⟨ds, rfl, φ⟩ | ⟨ds, rfl, φ⟩
  · obtain ⟨c, vs, rfl, f, r⟩ := At.lst_ rx3
    exact .inl ⟨c, vs, rfl, .of (R3.sub _ _ f), lay_lst R3 (cut_rel r o1 o2) φ up⟩
  · obtain ⟨c, vs, rfl, f, r⟩ := At.tup_ rx3
    refine .inr ⟨c, vs, rfl, .of (R3.sub _ _ f), fun hw => up _ _ (Post.dat R3 (.tup f ?_) φ), fun _ => lay_tup R3 (cut_rel r o1 o2) φ up⟩
    have : cutD ds o1 o2 = ds := by
      unfold cutD
      rw [← r.len, hw.1, hw.2, List.drop_zero, Nat.sub_zero, r.len, List.take_length]
    rw [this]; exact r
end
end Z

/-! Z8: methods, stores, calls of built-in functions. -/
namespace Z
open PySem PySem.Spec PyProof.Rows L2
/-! ### sorting as a function -/
def sortI (ns : List Int) : List Int := ns.mergeSort fun a b => decide (a ≤ b)
theorem sortI_perm (ns : List Int) : (sortI ns).Perm ns := List.mergeSort_perm _ _
theorem sortI_pw (ns : List Int) : (sortI ns).Pairwise (· ≤ ·) := by
  have h := List.pairwise_mergeSort (le := fun a b : Int => decide (a ≤ b)) (fun a b c h1 h2 => by simp at *; omega) (fun a b => by simp; omega) ns
  exact h.imp fun h => by simpa using h
theorem sortI_of {ns ms : List Int} (h : ms.Perm ns) (p : ms.Pairwise (· ≤ ·)) : ms = sortI ns :=
  List.Perm.eq_of_pairwise (fun a b _ _ h1 h2 => Int.le_antisymm h1 h2) p (sortI_pw ns) (h.trans (sortI_perm ns).symm)
def leS (a b : Str) : Bool := !decide (b.cps.toList < a.cps.toList)
theorem leS_trans {a b c : Str} (h1 : leS a b = true) (h2 : leS b c = true) : leS a c = true := by
  unfold leS at *
  simp at *
  exact List.le_trans h1 h2
theorem leS_trans' (a b c : Str) (h1 : leS a b = true) (h2 : leS b c = true) : leS a c = true := leS_trans h1 h2
theorem leS_total (a b : Str) : (leS a b || leS b a) = true := by
  unfold leS
  have := List.le_total a.cps.toList b.cps.toList
  simpa using this
theorem leS_anti {a b : Str} (h1 : leS a b = true) (h2 : leS b a = true) : a = b := by
  unfold leS at *
  simp at *
  have e := List.le_antisymm h1 h2
  obtain ⟨⟨x⟩⟩ := a
  obtain ⟨⟨y⟩⟩ := b
  simp at e
  rw [e]
def sortS (xs : List Str) : List Str := xs.mergeSort leS
theorem sortS_perm (ns : List Str) : (sortS ns).Perm ns := List.mergeSort_perm _ _
theorem sortS_pw (ns : List Str) : (sortS ns).Pairwise fun a b => leS a b = true := List.pairwise_mergeSort (le := leS) leS_trans' leS_total ns
theorem sortS_of {ns ms : List Str} (h : ms.Perm ns) (p : ms.Pairwise fun a b => leS a b = true) : ms = sortS ns :=
  List.Perm.eq_of_pairwise (fun a b _ _ h1 h2 => leS_anti h1 h2) p (sortS_pw ns) (h.trans (sortS_perm ns).symm)
theorem rising_pw : ∀ (xs : List Str) (x : Str), PyProof.Rows.risingS x xs = true → (x :: xs).Pairwise fun a b => leS a b = true
  | [], x, _ => by simp
  | y :: r, x, h => by
    obtain ⟨h1, h2⟩ := Bool.and_eq_true_iff.mp (show (!ltCps y.cps.toList x.cps.toList && PyProof.Rows.risingS y r) = true from h)
    have e : ltCps y.cps.toList x.cps.toList = decide (y.cps.toList < x.cps.toList) := ltCps_eq _ _
    rw [e] at h1
    have p := rising_pw r y h2
    refine .cons (fun z hz => ?_) p
    rcases List.mem_cons.mp hz with rfl | hz
    · exact h1
    · exact leS_trans h1 (List.rel_of_pairwise_cons p hz)
theorem sorted_pw {xs : List Str} (h : PyProof.Rows.sortedS xs = true) : xs.Pairwise fun a b => leS a b = true := by
  cases xs with
  | nil => exact .nil
  | cons x r => exact rising_pw r x h

section
variable {X : Cx} {k : Nat} {a b e f o : Expr} {es : List Expr} {pos p apos cpos : Pos} {Γ : GS} {M : MS} {Φ : W → MS → Prop}
/-! ### methods of lists -/
def IsLst (w : W) (M : MS) : Prop := (∃ ds, w = .d (.list ds)) ∨ ∃ j ws, w = .m j ∧ M[j]? = some (.lst ws)
theorem IsLst.at {F H : Hp} {ι : List Addr} {w : W} {v : V} (R : Rep F H ι M) (r : RW F ι v w) (h : IsLst w M) : ∃ c vs, v = .ref c ∧ H c = some (.lst vs) := by
  rcases h with ⟨ds, rfl⟩ | ⟨j, ws, rfl, hm⟩
  · obtain ⟨c, vs, rfl, f, _⟩ := At.lst_ r
    exact ⟨c, vs, rfl, R.sub _ _ f⟩
  · obtain ⟨c, hc, rfl⟩ := r
    rcases R.at_ j c _ hc hm with z | ⟨_, ob, h1, vs, rfl, _⟩
    · cases z
    · exact ⟨c, vs, rfl, h1⟩
/-- the looks of a method's call -/
structure MSyn (X : Cx) (o : Expr) (name : Str) (e : Expr) (es : List Expr) (apos cpos : Pos) : Prop where
  base : attributeBase o name X.env (eval o X.env) = eval o X.env
  few : ((backTo cpos (starEach (e :: es) X.env)).all (fun x => !x.1) && (backToKw cpos (keywordEach [] X.env)).all (fun x => x.1.isSome)
      && decide ((e :: es).length + ([] : List Keyword).length + (if ([] : List Keyword).isEmpty then 0 else 1) < 30)) = true
  line : (apos.endLine == cpos.line) = true
  star : starEach (e :: es) X.env = (false, eval e X.env) :: starEach es X.env
  plain : (backTo cpos (starEach es X.env)).any (·.1) = false
theorem RW.dat {F : Hp} {ι : List Addr} {v : V} {x : PyData} (h : At F v x) : RW F ι v (.d x) := h
theorem zm_list {id : String} {name : Str} {r : V → List V → Hp → VK → Prop} {Ψ : W → List W → MS → Prop} (slot : Slot "list" name id) (hty : typeOf (.builtin id) = pure (.type "method_descriptor")) (hm : MtR X id r)
    (h : ZE X o Γ M fun x M1 => IsLst x M1 ∧ ZA X (e :: es) Γ M1 fun xs M2 => Ψ x xs M2)
    (hr : ∀ F ι H M v x vs xs Q, Rep F H ι M → RW F ι v x → RWs F ι vs xs → Ψ x xs M → (∀ z H', Post F ι H Φ z H' → Q z H') → r v vs H Q)
    (sy : MSyn X o name e es apos cpos) : ZE X (.Call (.Attribute o name apos) (e :: es) [] cpos) Γ M Φ := fun F ι σ H R S => by
  refine w_e (pe_bm PySem.F.plainAttrs_list slot hty hm pe_w pa_w sy.base sy.few sy.line sy.star sy.plain) ((h F ι σ H R S).mono ?_)
  rintro v H1 ⟨F1, ι1, M1, x, E1, R1, rx, hl, ha⟩
  obtain ⟨c, vs, rfl, h1⟩ := hl.at R1 rx
  refine ⟨.inl ⟨rfl, vs, .of h1⟩, (ha F1 ι1 σ H1 R1 (E1.slots S)).mono ?_⟩
  rintro us H2 ⟨F2, ι2, M2, ws, E2, R2, rs, ψ⟩
  exact hr F2 ι2 H2 M2 _ x us ws _ R2 (E2.rw rx) rs ψ fun z H' q => Post.ext (E1.trans E2) q
theorem cell_at {F H : Hp} {ι : List Addr} {j : Nat} {ws : List W} {v : V} (R : Rep F H ι M) (r : RW F ι v (.m j)) (hm : M[j]? = some (.lst ws)) : ∃ c vs, v = .ref c ∧ ι[j]? = some c ∧ H c = some (.lst vs) ∧ RWs F ι vs ws := by
  obtain ⟨c, hc, rfl⟩ := r
  rcases R.at_ j c _ hc hm with z | ⟨_, ob, h1, vs, rfl, q⟩
  · cases z
  · exact ⟨c, vs, rfl, hc, h1, q⟩
theorem cell_put {F H : Hp} {ι : List Addr} {j : Nat} {ws ws' : List W} {c : Addr} {vs' : List V} {Q : VK} {v : V} {w : W} (R : Rep F H ι M) (hc : ι[j]? = some c) (hm : M[j]? = some (.lst ws)) (r : RWs F ι vs' ws') (rv : RW F ι v w) (φ : Φ w (M.set j (.lst ws')))
    (hQ : ∀ z H', Post F ι H Φ z H' → Q z H') : Q v (upd H c (.lst vs')) := by
  obtain ⟨E, R'⟩ := R.put (mo := .lst ws') hc hm (by intro z; cases z) ⟨vs', rfl, r⟩
  exact hQ _ _ (Post.ext E (Post.ret R' rv φ))
theorem RWs.take {F : Hp} {ι : List Addr} : ∀ {vs : List V} {ws : List W} (n : Nat), RWs F ι vs ws → RWs F ι (vs.take n) (ws.take n)
  | _, _, 0, _ => .nil
  | _, _, _ + 1, .nil => .nil
  | _, _, n + 1, .cons a b => .cons a (RWs.take n b)
theorem RWs.drop {F : Hp} {ι : List Addr} : ∀ {vs : List V} {ws : List W} (n : Nat), RWs F ι vs ws → RWs F ι (vs.drop n) (ws.drop n)
  | _, _, 0, h => h
  | _, _, _ + 1, .nil => .nil
  | _, _, n + 1, .cons _ b => RWs.drop n b
theorem RWs.set {F : Hp} {ι : List Addr} {v : V} {w : W} (r : RW F ι v w) : ∀ {vs : List V} {ws : List W} (n : Nat), RWs F ι vs ws → RWs F ι (vs.set n v) (ws.set n w)
  | _, _, _, .nil => .nil
  | _, _, 0, .cons _ b => .cons r b
  | _, _, n + 1, .cons a b => .cons a (RWs.set r n b)
theorem Ext.rks {F F1 H H1 : Hp} {ι ι1 : List Addr} (x : Ext F ι H F1 ι1 H1) {vs : List (Key × V)} {ws : List (Key × W)} (h : RKs F ι vs ws) : RKs F1 ι1 vs ws := Paired.mapP h fun _ _ r => ⟨r.1, x.rw r.2⟩
theorem RWs.erase {F : Hp} {ι : List Addr} : ∀ {vs : List V} {ws : List W} (n : Nat), RWs F ι vs ws → RWs F ι (vs.eraseIdx n) (ws.eraseIdx n)
  | _, _, _, .nil => .nil
  | _, _, 0, .cons _ b => b
  | _, _, n + 1, .cons a b => .cons a (RWs.erase n b)
/-- xs.append(e) -/
theorem zm_append (h : ZE X o Γ M fun x M1 => IsLst x M1 ∧ ZE X e Γ M1 fun y M2 => ∃ j ws, x = .m j ∧ M2[j]? = some (.lst ws) ∧ ws.length < sizeLine ∧ Φ (.d .none) (M2.set j (.lst (ws ++ [y]))))
    (sy : MSyn X o "append" e [] apos cpos := by exact ⟨by rfl, by rfl, by rfl, by rfl, by rfl⟩) : ZE X (.Call (.Attribute o "append" apos) [e] [] cpos) Γ M Φ :=
  zm_list PySem.F.slot_list_append PySem.F.type_list_append mt_append (Ψ := fun x xs M2 => ∃ j ws y, xs = [y] ∧ x = .m j ∧ M2[j]? = some (.lst ws) ∧ ws.length < sizeLine ∧ Φ (.d .none) (M2.set j (.lst (ws ++ [y]))))
    (h.mono fun x M1 ⟨hl, q⟩ => ⟨hl, za_cons (q.mono fun y M2 ⟨j, ws, e1, e2, e3, φ⟩ => za_nil ⟨j, ws, y, rfl, e1, e2, e3, φ⟩) sy.star⟩)
    (fun F ι H M v x vs xs Q R rx rs ψ hQ => by
      obtain ⟨j, ws, y, rfl, rfl, hm, hz, φ⟩ := ψ
      obtain ⟨c, us, rfl, hc, h1, rw'⟩ := cell_at R rx hm
      cases rs with
      | cons ry rn =>
        cases rn
        exact ⟨c, us, _, rfl, rfl, h1, by rw [rw'.len]; exact hz, cell_put R hc hm (rw'.app (.cons ry .nil)) (.dat .non) φ hQ⟩) sy
/-- xs.insert(i, e) -/
theorem zm_insert (h : ZE X o Γ M fun x M1 => IsLst x M1 ∧ ZE X e Γ M1 fun y M2 => ZE X f Γ M2 fun z M3 => ∃ j ws i, x = .m j ∧ y = .d (.int i) ∧ M3[j]? = some (.lst ws) ∧ ws.length < sizeLine ∧ 0 ≤ i ∧ i < 2 ^ 63 ∧ Φ (.d .none) (M3.set j (.lst (ws.take i.toNat ++ [z] ++ ws.drop i.toNat))))
    (sy : MSyn X o "insert" e [f] apos cpos := by exact ⟨by rfl, by rfl, by rfl, by rfl, by rfl⟩) (hs2 : starEach [f] X.env = (false, eval f X.env) :: starEach [] X.env := by rfl) : ZE X (.Call (.Attribute o "insert" apos) [e, f] [] cpos) Γ M Φ :=
  zm_list PySem.F.slot_list_insert PySem.F.type_list_insert mt_insert (Ψ := fun x xs M3 => ∃ j ws i z, xs = [.d (.int i), z] ∧ x = .m j ∧ M3[j]? = some (.lst ws) ∧ ws.length < sizeLine ∧ 0 ≤ i ∧ i < 2 ^ 63 ∧ Φ (.d .none) (M3.set j (.lst (ws.take i.toNat ++ [z] ++ ws.drop i.toNat))))
    (h.mono fun x M1 ⟨hl, q⟩ => ⟨hl, za_cons (q.mono fun y M2 q2 => za_cons (q2.mono fun z M3 ⟨j, ws, i, e1, e2, e3, e4, e5, e6, φ⟩ => za_nil ⟨j, ws, i, z, by rw [e2], e1, e3, e4, e5, e6, φ⟩) hs2) sy.star⟩)
    (fun F ι H M v x vs xs Q R rx rs ψ hQ => by
      obtain ⟨j, ws, i, z, rfl, rfl, hm, hz, i0, i1, φ⟩ := ψ
      obtain ⟨c, us, rfl, hc, h1, rw'⟩ := cell_at R rx hm
      cases rs with
      | cons ri rn =>
        cases rn with
        | cons rz rn =>
          cases rn
          exact ⟨c, us, i, _, rfl, by rw [At.int_ ri], h1, by rw [rw'.len]; exact hz, i0, i1, cell_put R hc hm (((rw'.take _).app (.cons rz .nil)).app (rw'.drop _)) (.dat .non) φ hQ⟩) sy
end
end Z

/-! Z9: more methods, stores, calls of built-in functions. -/
namespace Z
open PySem PySem.Spec PyProof.Rows L2
section
variable {X : Cx} {k : Nat} {a b e f o : Expr} {es : List Expr} {pos p apos cpos : Pos} {Γ : GS} {M : MS} {Φ : W → MS → Prop}
/-- xs.pop(i) of a cell -/
theorem zm_popAt (h : ZE X o Γ M fun x M1 => IsLst x M1 ∧ ZE X e Γ M1 fun y M2 => ∃ j ws i n w, x = .m j ∧ y = .d (.int i) ∧ M2[j]? = some (.lst ws) ∧ -(2 ^ 63) ≤ i ∧ i < 2 ^ 63 ∧ seqIndex? i ws.length = some n ∧ ws[n]? = some w ∧ Φ w (M2.set j (.lst (ws.eraseIdx n))))
    (sy : MSyn X o "pop" e [] apos cpos := by exact ⟨by rfl, by rfl, by rfl, by rfl, by rfl⟩) : ZE X (.Call (.Attribute o "pop" apos) [e] [] cpos) Γ M Φ :=
  zm_list PySem.F.slot_list_pop PySem.F.type_list_pop mt_popAt (Ψ := fun x xs M2 => ∃ j ws i n w, x = .m j ∧ xs = [.d (.int i)] ∧ M2[j]? = some (.lst ws) ∧ -(2 ^ 63) ≤ i ∧ i < 2 ^ 63 ∧ seqIndex? i ws.length = some n ∧ ws[n]? = some w ∧ Φ w (M2.set j (.lst (ws.eraseIdx n))))
    (h.mono fun x M1 ⟨hl, q⟩ => ⟨hl, za_cons (q.mono fun y M2 ⟨j, ws, i, n, w, e1, e2, r⟩ => za_nil ⟨j, ws, i, n, w, e1, by rw [e2], r⟩) sy.star⟩)
    (fun F ι H M v x vs xs Q R rx rs ψ hQ => by
      obtain ⟨j, ws, i, n, w, rfl, rfl, hm, i0, i1, hn, hw, φ⟩ := ψ
      obtain ⟨c, us, rfl, hc, h1, rw'⟩ := cell_at R rx hm
      obtain ⟨z, hz, rz⟩ := pair_get rw' hw
      cases rs with
      | cons ri rn =>
        cases rn
        exact ⟨c, us, i, n, z, rfl, by rw [At.int_ ri], h1, i0, i1, by rw [rw'.len]; exact hn, hz, cell_put R hc hm (rw'.erase n) rz φ hQ⟩) sy
def flatD : PyData → Bool
  | .none => true
  | .bool _ => true
  | .int _ => true
  | .str _ => true
  | _ => false
theorem flat_v {F : Hp} {v : V} {d : PyData} (h : At F v d) (f : flatD d = true) : flatV v = true := by
  cases h <;> first | rfl | cases f
theorem flat_all {F : Hp} : ∀ {vs : List V} {ds : List PyData}, AtAll F vs ds → ds.all flatD = true → vs.all flatV = true
  | _, _, .nil, _ => rfl
  | _, _, .cons a b, f => by
    rw [List.all_cons, Bool.and_eq_true] at f ⊢
    exact ⟨flat_v a f.1, flat_all b f.2⟩
theorem eqV_eqv {F : Hp} {v u : V} {d e : PyData} (h : At F v d) (h' : At F u e) (f : flatD d = true) (f' : flatD e = true) : eqV v u = PyData.eqv d e := by
  cases h <;> cases h' <;> first | rfl | (cases f; done) | (cases f'; done)
/-- xs.index(e) of flat data -/
theorem zm_index (h : ZE X o Γ M fun x M1 => ∃ ds, x = .d (.list ds) ∧ ZE X e Γ M1 fun y M2 => ∃ d j z, y = .d d ∧ flatD d = true ∧ ds.all flatD = true ∧ ds[j]? = some z ∧ PyData.eqv z d = true ∧ (∀ (m : Nat) z', m < j → ds[m]? = some z' → PyData.eqv z' d = false) ∧ Φ (.d (.int (j : Nat))) M2)
    (sy : MSyn X o "index" e [] apos cpos := by exact ⟨by rfl, by rfl, by rfl, by rfl, by rfl⟩) : ZE X (.Call (.Attribute o "index" apos) [e] [] cpos) Γ M Φ :=
  zm_list PySem.F.slot_list_index PySem.F.type_list_index mt_index (Ψ := fun x xs M2 => ∃ ds d j z, x = .d (.list ds) ∧ xs = [.d d] ∧ flatD d = true ∧ ds.all flatD = true ∧ ds[j]? = some z ∧ PyData.eqv z d = true ∧ (∀ (m : Nat) z', m < j → ds[m]? = some z' → PyData.eqv z' d = false) ∧ Φ (.d (.int (j : Nat))) M2)
    (h.mono fun x M1 ⟨ds, e0, q⟩ => ⟨.inl ⟨ds, e0⟩, za_cons (q.mono fun y M2 ⟨d, j, z, e1, r⟩ => za_nil ⟨ds, d, j, z, e0, by rw [e1], r⟩) sy.star⟩)
    (fun F ι H M v x vs xs Q R rx rs ψ hQ => by
      obtain ⟨ds, d, j, z, rfl, rfl, fd, fs, hz, he, hno, φ⟩ := ψ
      obtain ⟨c, us, rfl, f, ra⟩ := At.lst_ rx
      obtain ⟨y, hy, ry⟩ := ra.get hz
      have fz : flatD z = true := List.all_eq_true.mp fs z (List.mem_of_getElem? hz)
      cases rs with
      | cons rd rn =>
        cases rn
        refine ⟨c, us, _, j, y, rfl, rfl, .of (R.sub _ _ f), flat_v rd fd, flat_all ra fs, hy, by rw [eqV_eqv ry rd fz fd]; exact he, fun m z' hm hz' => ?_, hQ _ _ (Post.dat R (.int _) φ)⟩
        obtain ⟨x', hx', rx'⟩ := ra.get' hz'
        rw [eqV_eqv rx' rd (List.all_eq_true.mp fs x' (List.mem_of_getElem? hx')) fd]
        exact hno m x' hm hx') sy

/-! ### o[i] = .. -/
def putW {α : Type} (kvs : List (Key × α)) (k : Key) (v : α) : List (Key × α) := if (kvs.any fun kv => decide (kv.1 = k)) = true then kvs.map (fun kv => if kv.1 = k then (kv.1, v) else kv) else kvs ++ [(k, v)]
theorem RKs.len {F : Hp} {ι : List Addr} {vs : List (Key × V)} {ws : List (Key × W)} (h : RKs F ι vs ws) : vs.length = ws.length := Paired.length h
theorem RKs.any {F : Hp} {ι : List Addr} {k : Key} : ∀ {vs : List (Key × V)} {ws : List (Key × W)}, RKs F ι vs ws → (vs.any fun kv => decide (kv.1 = k)) = ws.any fun kv => decide (kv.1 = k)
  | _, _, .nil => rfl
  | _, _, .cons h t => by rw [List.any_cons, List.any_cons, RKs.any t, h.1]
theorem RKs.app {F : Hp} {ι : List Addr} : ∀ {vs us : List (Key × V)} {ws xs : List (Key × W)}, RKs F ι vs ws → RKs F ι us xs → RKs F ι (vs ++ us) (ws ++ xs)
  | _, _, _, _, .nil, h => h
  | _, _, _, _, .cons a b, h => .cons a (RKs.app b h)
theorem RKs.putM {F : Hp} {ι : List Addr} {k : Key} {v : V} {w : W} (r : RW F ι v w) : ∀ {vs : List (Key × V)} {ws : List (Key × W)}, RKs F ι vs ws → RKs F ι (vs.map fun kv => if kv.1 = k then (kv.1, v) else kv) (ws.map fun kv => if kv.1 = k then (kv.1, w) else kv)
  | _, _, .nil => .nil
  | _, _, .cons (a := p) (b := q) h t => by
    refine .cons ?_ (RKs.putM r t)
    obtain ⟨h1, h2⟩ := h
    dsimp only
    by_cases e : q.1 = k
    · rw [if_pos e, if_pos (h1.trans e)]; exact ⟨h1, r⟩
    · rw [if_neg e, if_neg (fun z => e (h1 ▸ z))]; exact ⟨h1, h2⟩
theorem RKs.put {F : Hp} {ι : List Addr} {k : Key} {v : V} {w : W} (r : RW F ι v w) {vs : List (Key × V)} {ws : List (Key × W)} (h : RKs F ι vs ws) : RKs F ι (putK vs k v) (putW ws k w) := by
  unfold putK putW
  rw [h.any (k := k)]
  by_cases e : (ws.any fun kv => decide (kv.1 = k)) = true
  · rw [if_pos e, if_pos e]; exact RKs.putM r h
  · rw [if_neg e, if_neg e]; exact h.app (.cons ⟨rfl, r⟩ .nil)
def SetW (x y w : W) (M : MS) (Ψ : MS → Prop) : Prop :=
  (∃ j ws i n, x = .m j ∧ y = .d (.int i) ∧ M[j]? = some (.lst ws) ∧ ixN ws.length i = some n ∧ Ψ (M.set j (.lst (ws.set n w)))) ∨
  ∃ j kws q, x = .m j ∧ y = .d (keyD q) ∧ M[j]? = some (.dic kws) ∧ kws.length < sizeLine ∧ Ψ (M.set j (.dic (putW kws q w)))
def rSetZ : TSet := fun o i v H Q => rSetL o i v H Q ∨ rSetD o i v H Q
theorem set_z (hr : RoomZ k X.A) : PSet X rSetZ := by
  intro pins s σ H o i v ov iv u Q I ro ri rv h
  rcases h with h | h
  · exact set_list pins s σ H o i v ov iv u Q I ro ri rv h
  · exact set_dict hr.hu pins s σ H o i v ov iv u Q I ro ri rv h
theorem dic_at {F H : Hp} {ι : List Addr} {j : Nat} {ws : List (Key × W)} {v : V} (R : Rep F H ι M) (r : RW F ι v (.m j)) (hm : M[j]? = some (.dic ws)) : ∃ c vs, v = .ref c ∧ ι[j]? = some c ∧ H c = some (.dK vs) ∧ RKs F ι vs ws := by
  obtain ⟨c, hc, rfl⟩ := r
  rcases R.at_ j c _ hc hm with z | ⟨_, ob, h1, vs, rfl, q⟩
  · cases z
  · exact ⟨c, vs, rfl, hc, h1, q⟩
theorem set_ok {F H : Hp} {ι : List Addr} {x y w : W} {v u z : V} {Ψ : MS → Prop} {Q : Hp → Prop} (R : Rep F H ι M) (rx : RW F ι v x) (ry : RW F ι u y) (rz : RW F ι z w) (h : SetW x y w M Ψ)
    (hQ : ∀ H' M', Ext F ι H F ι H' → Rep F H' ι M' → Ψ M' → Q H') : rSetZ v u z H Q := by
  rcases h with ⟨j, ws, i, n, rfl, rfl, hm, hn, φ⟩ | ⟨j, kws, q, rfl, rfl, hm, hz, φ⟩
  · obtain ⟨c, vs, rfl, hc, h1, r⟩ := cell_at R rx hm
    obtain ⟨E, R'⟩ := R.put (mo := .lst (ws.set n w)) (o := .lst (vs.set n z)) hc hm (by intro z; cases z) ⟨_, rfl, r.set rz n⟩
    exact .inl ⟨c, vs, i, n, rfl, At.int_ ry, h1, by rw [r.len]; exact hn, hQ _ _ E R' φ⟩
  · obtain ⟨c, vs, rfl, hc, h1, r⟩ := dic_at R rx hm
    obtain ⟨E, R'⟩ := R.put (mo := .dic (putW kws q w)) (o := .dK (putK vs q z)) hc hm (by intro z; cases z) ⟨_, rfl, r.put rz⟩
    have ey := kV_at ry
    subst ey
    exact .inr ⟨c, _, rfl, .k h1 (by rw [r.len]; exact hz), hQ _ _ E R' φ⟩
theorem zg_sub {w : W} {Ψ : GS → MS → Prop} (hr : RoomZ k X.A) (h : ZE X o Γ M fun x M1 => ZE X e Γ M1 fun y M2 => SetW x y w M2 fun M3 => Ψ Γ M3)
    (ha : ∀ v, assign (.Subscript o e pos) X.env v = (do
      let ov ← holding [v] (eval o X.env)
      let iv ← holding [v, ov] (eval e X.env)
      standAt pos
      holding [v, ov, iv] (setItem ov iv v)
      release [v, ov, iv] []) := by intro _; rfl) : ZG X (.Subscript o e pos) w Γ M Ψ := fun F ι σ H v R S r => by
  refine w_g (pg_sub pe_w pe_w (set_z hr) ha) ((h F ι σ H R S).mono ?_)
  rintro ov H1 ⟨F1, ι1, M1, x, E1, R1, rx, h2⟩
  refine (h2 F1 ι1 σ H1 R1 (E1.slots S)).mono ?_
  rintro iv H2 ⟨F2, ι2, M2, y, E2, R2, ry, h3⟩
  have E12 := E1.trans E2
  exact set_ok R2 (E2.rw rx) ry (E12.rw r) h3 fun H' M' E R' φ => ⟨F2, ι2, M', Γ, E12.trans E, R', E12.slots S, φ⟩
/-- o[e] op= f, whole numbers -/
def pgetZ : V → V → Hp → VK → Prop := fun x y H Q => (∃ c xs i v, x = .ref c ∧ y = .int i ∧ H c = some (.lst xs) ∧ atI xs i = some v ∧ 0 ≤ i ∧ Q v H) ∨ ∃ c v, x = .ref c ∧ DGet H c y (some v) ∧ Q v H
theorem pget_z (hr : RoomZ k X.A) : PGet X pgetZ := by
  intro pins s σ H x y v u Q I rx ry h
  rcases h with ⟨c, xs, i, z, rfl, rfl, hc, he, i0, q⟩ | ⟨c, z, rfl, g, q⟩
  · obtain rfl : v = Value.ref c := rx
    obtain ⟨t, rfl⟩ := ry
    obtain ⟨its, r, pl, hz⟩ := I.list (.of hc)
    obtain ⟨j, h1, h2, h3, h4, h5⟩ := atI_get he
    obtain ⟨w, ew, rw'⟩ := r.get h2
    have hl := r.length
    have hn := line63
    have hj : i.toNat = j := by
      rw [seqIndex_of i0 h5] at h1
      exact Option.some.inj h1
    exact wpAny_getItem_list pl.isList i0 (by omega) (by rw [hj]; simpa using ew) ⟨z, H, I, rw', q⟩
  · obtain rfl : v = Value.ref c := rx
    exact d_getItem hr.hu I g ry fun w' s3 I3 rw' => ⟨z, H, I3, rw', q⟩
def AGet (x y : W) (M : MS) (Ψ : W → Prop) : Prop := (∃ j ws i w, x = .m j ∧ y = .d (.int i) ∧ M[j]? = some (.lst ws) ∧ atI ws i = some w ∧ 0 ≤ i ∧ Ψ w) ∨ ∃ q w, y = .d (keyD q) ∧ GetW x q M (some w) ∧ Ψ w
theorem zs_aug {D : ZD} {op : Operator} {g : Int → Int → Int} {tpos : Pos} (hr : RoomZ k X.A) (hp : PIp X op (ipI g))
    (h : ZE X o Γ M fun x M1 => ZE X e Γ M1 fun y M2 => AGet x y M2 fun w => ZE X f Γ M2 fun z M3 => ∃ i j, w = .d (.int i) ∧ z = .d (.int j) ∧ SetW x y (.d (.int (g i j))) M3 fun M4 => D.nx Γ M4)
    (ha : ∀ ov iv new, augStore e ov iv new = (do holding [new, ov, iv] (setItem ov iv new); release [new, ov, iv] []; pure .next) := by intros; rfl) : ZS X (.AugAssign (.Subscript o e tpos) op f pos) Γ M D := fun F ι σ H R S => by
  refine w_s (ps_augS pe_w pe_w (pget_z hr) pe_w hp (set_z hr) ha) ((h F ι σ H R S).mono ?_)
  rintro ov H1 ⟨F1, ι1, M1, x, E1, R1, rx, h2⟩
  refine (h2 F1 ι1 σ H1 R1 (E1.slots S)).mono ?_
  rintro iv H2 ⟨F2, ι2, M2, y, E2, R2, ry, h3⟩
  have E12 := E1.trans E2
  have fin : ∀ w old, RW F2 ι2 old w → (ZE X f Γ M2 fun z M3 => ∃ i j, w = .d (.int i) ∧ z = .d (.int j) ∧ SetW x y (.d (.int (g i j))) M3 fun M4 => D.nx Γ M4) →
      wE X f σ H2 fun y4 H4 => ipI g old y4 H4 fun z H5 => rSetZ ov iv z H5 fun H6 => (D.ends F ι H).nx σ H6 := fun w old ro hf => by
    refine (hf F2 ι2 σ H2 R2 (E12.slots S)).mono ?_
    rintro v4 H4 ⟨F4, ι4, M4, z, E4, R4, rz, i, j, rfl, rfl, h5⟩
    have E14 := E12.trans E4
    refine ⟨i, j, At.int_ (E4.rw ro), At.int_ rz, set_ok R4 (E4.rw (E2.rw rx)) (E4.rw ry) (.dat (.int _)) h5 fun H' M' E R' φ => ?_⟩
    exact ⟨F4, ι4, M', Γ, E14.trans E, R', E14.slots S, φ⟩
  rcases h3 with ⟨j, ws, i, w, rfl, rfl, hm, hw, i0, hf⟩ | ⟨q, w, rfl, gt, hf⟩
  · obtain ⟨c, vs, rfl, hc, h1, r⟩ := cell_at R2 (E2.rw rx) hm
    obtain ⟨z, hz, rz⟩ := at_rel r hw
    exact .inl ⟨c, vs, i, z, rfl, At.int_ ry, h1, hz, i0, fin w z rz hf⟩
  · obtain ⟨c, ovv, rfl, dg, i1, _⟩ := get_ok R2 (E2.rw rx) ry gt
    obtain ⟨z, rfl, rz⟩ := i1 w rfl
    exact .inr ⟨c, z, rfl, dg, fin w z rz hf⟩
/-- x op= e, whole numbers -/
theorem zs_augN (i : Nat) {D : ZD} {x : Str} {pos' : Pos} {op : Operator} {g : Int → Int → Int} (hp : PIp X op (ipI g)) {n : Int} (h0 : Γ[i]? = some (some (.d (.int n)))) (h : ZE X e Γ M fun w M1 => ∃ m, w = .d (.int m) ∧ D.nx (Γ.set i (some (.d (.int (g n m))))) M1)
    (hN : X.N.Nodup) (hi : X.N[i]? = some x := by rfl) (hx : Loc X.env.scope x := by first | exact Or.inl rfl | exact Or.inr rfl) (hf : X.fn x = true ∨ X.env.scope.names.lookup x = some .local := by first | exact .inl rfl | exact .inr rfl) :
    ZS X (.AugAssign (.Name x pos') op e pos) Γ M D := fun F ι σ H R S => by
  obtain ⟨v, e1, r⟩ := S.get i _ h0
  refine w_s (ps_aug hN hi hx pe_w hp hf) ⟨v, e1, (h F ι σ H R S).mono ?_⟩
  rintro y H1 ⟨F1, ι1, M1, w, E1, R1, rw', m, rfl, φ⟩
  exact ⟨n, m, At.int_ r, At.int_ rw', F1, ι1, M1, _, E1, R1, (E1.slots S).set i (.dat (.int _)), φ⟩
end
end Z

/-! Z10: calls of built-in functions. -/
namespace Z
open PySem PySem.Spec PyProof.Rows L2
theorem bt_len : bootBuiltins "len" = some (.builtin "len") := by decide +kernel
theorem bt_abs : bootBuiltins "abs" = some (.builtin "abs") := by decide +kernel
theorem bt_min : bootBuiltins "min" = some (.builtin "min") := by decide +kernel
theorem bt_max : bootBuiltins "max" = some (.builtin "max") := by decide +kernel
theorem bt_repr : bootBuiltins "repr" = some (.builtin "repr") := by decide +kernel
theorem bt_sorted : bootBuiltins "sorted" = some (.builtin "sorted") := by decide +kernel
theorem bt_isinstance : bootBuiltins "isinstance" = some (.builtin "isinstance") := by decide +kernel
theorem bt_all : bootBuiltins "all" = some (.builtin "all") := by decide +kernel
theorem bt_any : bootBuiltins "any" = some (.builtin "any") := by decide +kernel
theorem bt_sum : bootBuiltins "sum" = some (.builtin "sum") := by decide +kernel
theorem bt_int : bootBuiltins "int" = some (.type "int") := by decide +kernel
theorem bt_bool : bootBuiltins "bool" = some (.type "bool") := by decide +kernel
theorem bt_str : bootBuiltins "str" = some (.type "str") := by decide +kernel
theorem bt_list : bootBuiltins "list" = some (.type "list") := by decide +kernel
theorem bt_tuple : bootBuiltins "tuple" = some (.type "tuple") := by decide +kernel
theorem bt_dict : bootBuiltins "dict" = some (.type "dict") := by decide +kernel
theorem bt_set : bootBuiltins "set" = some (.type "set") := by decide +kernel
theorem bt_zip : bootBuiltins "zip" = some (.type "zip") := by decide +kernel
/-- the built-in names that no module's name hides -/
structure Bn (T : Top) : Prop where
  len : T.mg "len" = none
  abs : T.mg "abs" = none
  min : T.mg "min" = none
  max : T.mg "max" = none
  repr : T.mg "repr" = none
  sorted : T.mg "sorted" = none
  isinstance : T.mg "isinstance" = none
  all : T.mg "all" = none
  any : T.mg "any" = none
  sum : T.mg "sum" = none
  int : T.mg "int" = none
  bool : T.mg "bool" = none
  str : T.mg "str" = none
  list : T.mg "list" = none
  tuple : T.mg "tuple" = none
  dict : T.mg "dict" = none
  set : T.mg "set" = none
  zip : T.mg "zip" = none
  range : T.mg "range" = none
  enumerate : T.mg "enumerate" = none
  reversed : T.mg "reversed" = none
  sys : ∃ o, T.base.get? sysModules = some o
section
variable {X : Cx} {k : Nat} {a b e f o : Expr} {es : List Expr} {pos p apos cpos : Pos} {Γ : GS} {M : MS} {Φ : W → MS → Prop} {x : Str}
/-- the looks of a call -/
structure CSyn (X : Cx) (e : Expr) (es : List Expr) (pos : Pos) : Prop where
  star : starEach (e :: es) X.env = (false, eval e X.env) :: starEach es X.env
  plain : (backTo pos (starEach es X.env)).any (·.1) = false
theorem zb {id : String} {r : List V → Hp → VK → Prop} {Ψ : List W → MS → Prop} (hc : CallR X (.builtin id) r) (hm : X.mg x = none) (hv : bootBuiltins x = some (.builtin id)) (hg : Gl X x) (h : ZA X (e :: es) Γ M Ψ)
    (hr : ∀ F ι H M vs xs Q, Rep F H ι M → RWs F ι vs xs → Ψ xs M → (∀ z H', Post F ι H Φ z H' → Q z H') → r vs H Q) (sy : CSyn X e es pos) (hn : x ≠ "__name__" := by decide) (hdb : (x == ("__debug__" : Str)) = false := by decide) :
    ZE X (.Call (.Name x p) (e :: es) [] pos) Γ M Φ := za (pe_callB hc hg hm hv pa_w hn hdb sy.star sy.plain) h hr
theorem zy {id : String} {r : List V → Hp → VK → Prop} {Ψ : List W → MS → Prop} (hc : CallR X (.type id) r) (hm : X.mg x = none) (hv : bootBuiltins x = some (.type id)) (hg : Gl X x) (h : ZA X (e :: es) Γ M Ψ)
    (hr : ∀ F ι H M vs xs Q, Rep F H ι M → RWs F ι vs xs → Ψ xs M → (∀ z H', Post F ι H Φ z H' → Q z H') → r vs H Q) (sy : CSyn X e es pos) (hn : x ≠ "__name__" := by decide) (hdb : (x == ("__debug__" : Str)) = false := by decide) :
    ZE X (.Call (.Name x p) (e :: es) [] pos) Γ M Φ := za (pe_callTy hc hg hm hv pa_w hn hdb sy.star sy.plain) h hr
theorem one_ {F : Hp} {ι : List Addr} {vs : List V} {x : W} (r : RWs F ι vs [x]) : ∃ v, vs = [v] ∧ RW F ι v x := by
  cases r with
  | cons a b => cases b; exact ⟨_, rfl, a⟩
theorem two_ {F : Hp} {ι : List Addr} {vs : List V} {x y : W} (r : RWs F ι vs [x, y]) : ∃ v u, vs = [v, u] ∧ RW F ι v x ∧ RW F ι u y := by
  cases r with
  | cons a b =>
    cases b with
    | cons c d => cases d; exact ⟨_, _, rfl, a, c⟩
theorem zb1 {id : String} {r : List V → Hp → VK → Prop} {Ψ : W → MS → Prop} (hc : CallR X (.builtin id) r) (hm : X.mg x = none) (hv : bootBuiltins x = some (.builtin id)) (hg : Gl X x) (h : ZE X e Γ M Ψ)
    (hr : ∀ F ι H M v y Q, Rep F H ι M → RW F ι v y → Ψ y M → (∀ z H', Post F ι H Φ z H' → Q z H') → r [v] H Q) (sy : CSyn X e [] pos) (hn : x ≠ "__name__" := by decide) (hdb : (x == ("__debug__" : Str)) = false := by decide) :
    ZE X (.Call (.Name x p) [e] [] pos) Γ M Φ :=
  zb hc hm hv hg (Ψ := fun xs M1 => ∃ y, xs = [y] ∧ Ψ y M1) (za_cons (h.mono fun y M1 q => za_nil ⟨y, rfl, q⟩) sy.star) (fun F ι H M vs xs Q R r ⟨y, e, q⟩ hQ => by
    subst e
    obtain ⟨v, rfl, rv⟩ := one_ r
    exact hr F ι H M v y Q R rv q hQ) sy hn hdb
theorem zy1 {id : String} {r : List V → Hp → VK → Prop} {Ψ : W → MS → Prop} (hc : CallR X (.type id) r) (hm : X.mg x = none) (hv : bootBuiltins x = some (.type id)) (hg : Gl X x) (h : ZE X e Γ M Ψ)
    (hr : ∀ F ι H M v y Q, Rep F H ι M → RW F ι v y → Ψ y M → (∀ z H', Post F ι H Φ z H' → Q z H') → r [v] H Q) (sy : CSyn X e [] pos) (hn : x ≠ "__name__" := by decide) (hdb : (x == ("__debug__" : Str)) = false := by decide) :
    ZE X (.Call (.Name x p) [e] [] pos) Γ M Φ :=
  zy hc hm hv hg (Ψ := fun xs M1 => ∃ y, xs = [y] ∧ Ψ y M1) (za_cons (h.mono fun y M1 q => za_nil ⟨y, rfl, q⟩) sy.star) (fun F ι H M vs xs Q R r ⟨y, e, q⟩ hQ => by
    subst e
    obtain ⟨v, rfl, rv⟩ := one_ r
    exact hr F ι H M v y Q R rv q hQ) sy hn hdb
theorem zb2 {id : String} {r : List V → Hp → VK → Prop} {Ψ : W → W → MS → Prop} (hc : CallR X (.builtin id) r) (hm : X.mg x = none) (hv : bootBuiltins x = some (.builtin id)) (hg : Gl X x) (h : ZE X e Γ M fun y M1 => ZE X f Γ M1 fun z M2 => Ψ y z M2)
    (hr : ∀ F ι H M v u y z Q, Rep F H ι M → RW F ι v y → RW F ι u z → Ψ y z M → (∀ z H', Post F ι H Φ z H' → Q z H') → r [v, u] H Q) (sy : CSyn X e [f] pos) (sy2 : CSyn X f [] pos) (hn : x ≠ "__name__" := by decide) (hdb : (x == ("__debug__" : Str)) = false := by decide) :
    ZE X (.Call (.Name x p) [e, f] [] pos) Γ M Φ :=
  zb hc hm hv hg (Ψ := fun xs M1 => ∃ y z, xs = [y, z] ∧ Ψ y z M1) (za_cons (h.mono fun y M1 q => za_cons (q.mono fun z M2 q2 => za_nil ⟨y, z, rfl, q2⟩) sy2.star) sy.star) (fun F ι H M vs xs Q R r ⟨y, z, e, q⟩ hQ => by
    subst e
    obtain ⟨v, u, rfl, rv, ru⟩ := two_ r
    exact hr F ι H M v u y z Q R rv ru q hQ) sy hn hdb

/-! ### numbers -/
theorem zk_abs (hm : X.mg "abs" = none) (h : ZE X e Γ M fun y M1 => ∃ i, y = .d (.int i) ∧ Φ (.d (.int (if i < 0 then -i else i))) M1) (hg : Gl X "abs" := by rfl) (sy : CSyn X e [] pos := by exact ⟨by rfl, by rfl⟩) : ZE X (.Call (.Name "abs" p) [e] [] pos) Γ M Φ :=
  zb1 call_abs hm bt_abs hg h (fun F ι H M v y Q R rv ψ hQ => by
    obtain ⟨i, rfl, φ⟩ := ψ
    exact ⟨i, by rw [At.int_ rv], hQ _ _ (Post.dat R (.int _) φ)⟩) sy
theorem zk_int (hm : X.mg "int" = none) (h : ZE X e Γ M fun y M1 => (∃ i, y = .d (.int i) ∧ Φ (.d (.int i)) M1) ∨ ∃ c, y = .d (.bool c) ∧ Φ (.d (.int (if c then 1 else 0))) M1) (hg : Gl X "int" := by rfl) (sy : CSyn X e [] pos := by exact ⟨by rfl, by rfl⟩) : ZE X (.Call (.Name "int" p) [e] [] pos) Γ M Φ :=
  zy1 call_int1 hm bt_int hg h (fun F ι H M v y Q R rv ψ hQ => by
    rcases ψ with ⟨i, rfl, φ⟩ | ⟨c, rfl, φ⟩
    · exact .inl ⟨i, by rw [At.int_ rv], hQ _ _ (Post.dat R (.int _) φ)⟩
    · exact .inr ⟨c, by rw [At.bl_ rv], hQ _ _ (Post.dat R (.int _) φ)⟩) sy
theorem zk_max (hm : X.mg "max" = none) (hc : X.calm = true) (h : ZE X e Γ M fun y M1 => ZE X f Γ M1 fun z M2 => ∃ i j, y = .d (.int i) ∧ z = .d (.int j) ∧ Φ (.d (.int (if j > i then j else i))) M2) (hg : Gl X "max" := by rfl) (sy : CSyn X e [f] pos := by exact ⟨by rfl, by rfl⟩) (sy2 : CSyn X f [] pos := by exact ⟨by rfl, by rfl⟩) :
    ZE X (.Call (.Name "max" p) [e, f] [] pos) Γ M Φ :=
  zb2 (call_max2 hc) hm bt_max hg h (fun F ι H M v u y z Q R rv ru ψ hQ => by
    obtain ⟨i, j, rfl, rfl, φ⟩ := ψ
    exact ⟨i, j, by rw [At.int_ rv, At.int_ ru], hQ _ _ (Post.dat R (.int _) φ)⟩) sy sy2
theorem zk_min (hm : X.mg "min" = none) (hc : X.calm = true) (h : ZE X e Γ M fun y M1 => ZE X f Γ M1 fun z M2 => ∃ i j, y = .d (.int i) ∧ z = .d (.int j) ∧ Φ (.d (.int (if j < i then j else i))) M2) (hg : Gl X "min" := by rfl) (sy : CSyn X e [f] pos := by exact ⟨by rfl, by rfl⟩) (sy2 : CSyn X f [] pos := by exact ⟨by rfl, by rfl⟩) :
    ZE X (.Call (.Name "min" p) [e, f] [] pos) Γ M Φ :=
  zb2 (call_min2 hc) hm bt_min hg h (fun F ι H M v u y z Q R rv ru ψ hQ => by
    obtain ⟨i, j, rfl, rfl, φ⟩ := ψ
    exact ⟨i, j, by rw [At.int_ rv, At.int_ ru], hQ _ _ (Post.dat R (.int _) φ)⟩) sy sy2

/-! ### lists, tuples, texts -/
def LenW (y : W) (M : MS) (n : Nat) : Prop := (∃ ds, (y = .d (.list ds) ∨ y = .d (.tuple ds)) ∧ n = ds.length) ∨ (∃ j ws, y = .m j ∧ M[j]? = some (.lst ws) ∧ n = ws.length) ∨ ∃ z : Str, y = .d (.str z) ∧ z.length ≤ sizeLine ∧ n = z.length
theorem LenW.list {ds : List PyData} : LenW (.d (.list ds)) M ds.length := .inl ⟨ds, .inl rfl, rfl⟩
theorem LenW.tuple {ds : List PyData} : LenW (.d (.tuple ds)) M ds.length := .inl ⟨ds, .inr rfl, rfl⟩
theorem LenW.cell {j : Nat} {ws : List W} (h : M[j]? = some (.lst ws)) : LenW (.m j) M ws.length := .inr (.inl ⟨j, ws, rfl, h, rfl⟩)
theorem LenW.str {z : Str} (h : z.length ≤ sizeLine) : LenW (.d (.str z)) M z.length := .inr (.inr ⟨z, rfl, h, rfl⟩)
theorem zk_len (hm : X.mg "len" = none) (h : ZE X e Γ M fun y M1 => ∃ n, LenW y M1 n ∧ Φ (.d (.int (n : Nat))) M1) (hg : Gl X "len" := by rfl) (sy : CSyn X e [] pos := by exact ⟨by rfl, by rfl⟩) : ZE X (.Call (.Name "len" p) [e] [] pos) Γ M Φ :=
  zb1 call_len hm bt_len hg h (fun F ι H M v y Q R rv ψ hQ => by
    obtain ⟨n, hn, φ⟩ := ψ
    have fin := hQ (.int (n : Nat)) H (Post.dat R (.int _) φ)
    rcases hn with ⟨ds, rfl | rfl, rfl⟩ | ⟨j, ws, rfl, hj, rfl⟩ | ⟨z, rfl, hz, rfl⟩
    · obtain ⟨c, vs, rfl, f, r⟩ := At.lst_ rv
      exact ⟨_, _, rfl, .inl ⟨vs, .of (R.sub _ _ f), r.len.symm⟩, fin⟩
    · obtain ⟨c, vs, rfl, f, r⟩ := At.tup_ rv
      exact ⟨_, _, rfl, .inr ⟨vs, .of (R.sub _ _ f), r.len.symm⟩, fin⟩
    · obtain ⟨c, vs, rfl, _, h1, r⟩ := cell_at R rv hj
      exact ⟨_, _, rfl, .inl ⟨vs, .of h1, r.len.symm⟩, fin⟩
    · rw [At.str_ rv]
      exact ⟨_, _, rfl, ⟨hz, rfl⟩, fin⟩) sy
/-- a list or a tuple, whole: data or a cell of data -/
def AllW (y : W) (M : MS) (ds : List PyData) : Prop := y = .d (.list ds) ∨ y = .d (.tuple ds) ∨ ∃ j, y = .m j ∧ M[j]? = some (.lst (ds.map .d))
theorem AllW.at {F H : Hp} {ι : List Addr} {y : W} {v : V} {ds : List PyData} (R : Rep F H ι M) (r : RW F ι v y) (h : AllW y M ds) : ∃ c vs, v = .ref c ∧ (H c = some (.lst vs) ∨ (F c = some (.tup vs) ∧ y = .d (.tuple ds))) ∧ AtAll F vs ds := by
  rcases h with rfl | rfl | ⟨j, rfl, hj⟩
  · obtain ⟨c, vs, rfl, f, q⟩ := At.lst_ r
    exact ⟨c, vs, rfl, .inl (R.sub _ _ f), q⟩
  · obtain ⟨c, vs, rfl, f, q⟩ := At.tup_ r
    exact ⟨c, vs, rfl, .inr ⟨f, rfl⟩, q⟩
  · obtain ⟨c, vs, rfl, _, h1, q⟩ := cell_at R r hj
    exact ⟨c, vs, rfl, .inl h1, RWs.dat q⟩
theorem zk_list (hm : X.mg "list" = none) (h : ZE X e Γ M fun y M1 => ∃ ds, AllW y M1 ds ∧ Φ (.d (.list ds)) M1) (hg : Gl X "list" := by rfl) (sy : CSyn X e [] pos := by exact ⟨by rfl, by rfl⟩) : ZE X (.Call (.Name "list" p) [e] [] pos) Γ M Φ :=
  zy1 call_list_of hm bt_list hg h (fun F ι H M v y Q R rv ψ hQ => by
    obtain ⟨ds, hy, φ⟩ := ψ
    obtain ⟨c, vs, rfl, hc, r⟩ := hy.at R rv
    refine ⟨c, vs, rfl, ?_, lay_lst R r φ hQ⟩
    rcases hc with h1 | ⟨f, _⟩
    · exact .inl (.of h1)
    · exact .inr (.of (R.sub _ _ f))) sy
/-- list(..) that is to be changed -/
theorem zk_listM (hm : X.mg "list" = none) (h : ZE X e Γ M fun y M1 => ∃ ds, AllW y M1 ds ∧ Φ (.m M1.length) (M1 ++ [.lst (ds.map .d)])) (hg : Gl X "list" := by rfl) (sy : CSyn X e [] pos := by exact ⟨by rfl, by rfl⟩) : ZE X (.Call (.Name "list" p) [e] [] pos) Γ M Φ :=
  zy1 call_list_of hm bt_list hg h (fun F ι H M v y Q R rv ψ hQ => by
    obtain ⟨ds, hy, φ⟩ := ψ
    obtain ⟨c, vs, rfl, hc, r⟩ := hy.at R rv
    refine ⟨c, vs, rfl, ?_, fun q n => ?_⟩
    · rcases hc with h1 | ⟨f, _⟩
      · exact .inl (.of h1)
      · exact .inr (.of (R.sub _ _ f))
    · obtain ⟨E, R'⟩ := R.new (o := .lst vs) (mo := .lst (ds.map .d)) n ⟨vs, rfl, RWs.of r⟩
      exact hQ _ _ (Post.ext E (Post.ret R' (RW.m (by rw [← R.len, List.getElem?_append_right (Nat.le_refl _)]; simp)) φ))) sy
theorem zk_tuple (hm : X.mg "tuple" = none) (h : ZE X e Γ M fun y M1 => ∃ ds, AllW y M1 ds ∧ Φ (.d (.tuple ds)) M1) (hg : Gl X "tuple" := by rfl) (sy : CSyn X e [] pos := by exact ⟨by rfl, by rfl⟩) : ZE X (.Call (.Name "tuple" p) [e] [] pos) Γ M Φ :=
  zy1 call_tuple_of hm bt_tuple hg h (fun F ι H M v y Q R rv ψ hQ => by
    obtain ⟨ds, hy, φ⟩ := ψ
    obtain ⟨c, vs, rfl, hc, r⟩ := hy.at R rv
    refine ⟨c, vs, rfl, ?_⟩
    rcases hc with h1 | ⟨f, rfl⟩
    · exact .inl ⟨.of h1, lay_tup R r φ hQ⟩
    · exact .inr ⟨.of (R.sub _ _ f), hQ _ _ (Post.dat R (.tup f r) φ)⟩) sy
/-- repr of data -/
theorem zk_repr (hr : RoomZ k X.A) (hs : ∃ o, X.base.get? sysModules = some o) (hm : X.mg "repr" = none) (h : ZE X e Γ M fun y M1 => ∃ d, y = .d d ∧ d.showable = true ∧ d.depth ≤ 60 ∧ d.shown.length ≤ sizeLine ∧ Φ (.d (.str d.shown)) M1) (hg : Gl X "repr" := by rfl) (sy : CSyn X e [] pos := by exact ⟨by rfl, by rfl⟩) :
    ZE X (.Call (.Name "repr" p) [e] [] pos) Γ M Φ :=
  zb1 (call_repr hr hs) hm bt_repr hg h (fun F ι H M v y Q R rv ψ hQ => by
    obtain ⟨d, rfl, h1, h2, h3, φ⟩ := ψ
    exact ⟨F, v, d, rfl, R.sub, rv, h1, h2, h3, hQ _ _ (Post.dat R (.str _) φ)⟩) sy
/-- sorted of whole numbers, of texts -/
def SortW (y : W) (M : MS) (Ψ : List PyData → Prop) : Prop := (∃ ns : List Int, AllW y M (ns.map .int) ∧ (∀ ds, y ≠ .d (.tuple ds)) ∧ Ψ ((sortI ns).map .int)) ∨ ∃ ss : List Str, AllW y M (ss.map .str) ∧ (∀ ds, y ≠ .d (.tuple ds)) ∧ ss.length < 64 ∧ Ψ ((sortS ss).map .str)
theorem CallR.or {f : Value} {r r' : List V → Hp → VK → Prop} (h : CallR X f r) (h' : CallR X f r') : CallR X f (fun xs H Q => r xs H Q ∨ r' xs H Q) := by
  intro pins s σ H xs us Q I rx q
  rcases q with q | q
  · exact h pins s σ H xs us Q I rx q
  · exact h' pins s σ H xs us Q I rx q
theorem zk_sorted (hm : X.mg "sorted" = none) (h : ZE X e Γ M fun y M1 => SortW y M1 fun ds => Φ (.d (.list ds)) M1) (hg : Gl X "sorted" := by rfl) (sy : CSyn X e [] pos := by exact ⟨by rfl, by rfl⟩) : ZE X (.Call (.Name "sorted" p) [e] [] pos) Γ M Φ :=
  zb1 (CallR.or cr_sortedI cr_sortedS) hm bt_sorted hg h (fun F ι H M v y Q R rv ψ hQ => by
    rcases ψ with ⟨ns, hy, nt, φ⟩ | ⟨ss, hy, nt, h64, φ⟩
    · obtain ⟨c, vs, rfl, hc, r⟩ := hy.at R rv
      have h1 := hc.resolve_right fun z => nt _ z.2
      rw [r.ints] at h1
      refine .inl ⟨c, ns, rfl, .of h1, fun ns' q pm pw n => ?_⟩
      rw [sortI_of pm pw]
      exact lay_lst R .of_ints φ hQ q n
    · obtain ⟨c, vs, rfl, hc, r⟩ := hy.at R rv
      have h1 := hc.resolve_right fun z => nt _ z.2
      rw [r.strs] at h1
      refine .inr ⟨c, ss, rfl, .of h1, h64, fun ys q pm so n => ?_⟩
      rw [sortS_of pm (sorted_pw so)]
      exact lay_lst R .of_strs φ hQ q n) sy
theorem AtAll.bools {F : Hp} : ∀ {v : List V} {ns : List Bool}, AtAll F v (ns.map .bool) → v = ns.map V.bl
  | _, [], h => by cases h; rfl
  | _, n :: ns, h => by cases h with | cons a b => rw [a.bl_, b.bools]; rfl
theorem zk_all (hm : X.mg "all" = none) (hc : X.calm = true) (h : ZE X e Γ M fun y M1 => ∃ bs : List Bool, y = .d (.list (bs.map .bool)) ∧ Φ (.d (.bool (bs.all id))) M1) (hg : Gl X "all" := by rfl) (sy : CSyn X e [] pos := by exact ⟨by rfl, by rfl⟩) : ZE X (.Call (.Name "all" p) [e] [] pos) Γ M Φ :=
  zb1 (cr_all hc) hm bt_all hg h (fun F ι H M v y Q R rv ψ hQ => by
    obtain ⟨bs, rfl, φ⟩ := ψ
    obtain ⟨c, vs, rfl, f, r⟩ := At.lst_ rv
    rw [r.bools] at f
    exact ⟨c, bs, rfl, .of (R.sub _ _ f), hQ _ _ (Post.dat R (.bl _) φ)⟩) sy
theorem zk_any (hm : X.mg "any" = none) (hc : X.calm = true) (h : ZE X e Γ M fun y M1 => ∃ bs : List Bool, y = .d (.list (bs.map .bool)) ∧ Φ (.d (.bool (bs.any id))) M1) (hg : Gl X "any" := by rfl) (sy : CSyn X e [] pos := by exact ⟨by rfl, by rfl⟩) : ZE X (.Call (.Name "any" p) [e] [] pos) Γ M Φ :=
  zb1 (cr_any hc) hm bt_any hg h (fun F ι H M v y Q R rv ψ hQ => by
    obtain ⟨bs, rfl, φ⟩ := ψ
    obtain ⟨c, vs, rfl, f, r⟩ := At.lst_ rv
    rw [r.bools] at f
    exact ⟨c, bs, rfl, .of (R.sub _ _ f), hQ _ _ (Post.dat R (.bl _) φ)⟩) sy
theorem zk_sum (hm : X.mg "sum" = none) (hc : X.calm = true) (h : ZE X e Γ M fun y M1 => ∃ ns : List Int, y = .d (.list (ns.map .int)) ∧ Φ (.d (.int ns.sum)) M1) (hg : Gl X "sum" := by rfl) (sy : CSyn X e [] pos := by exact ⟨by rfl, by rfl⟩) : ZE X (.Call (.Name "sum" p) [e] [] pos) Γ M Φ :=
  zb1 (cr_sum hc) hm bt_sum hg h (fun F ι H M v y Q R rv ψ hQ => by
    obtain ⟨ns, rfl, φ⟩ := ψ
    obtain ⟨c, vs, rfl, f, r⟩ := At.lst_ rv
    rw [r.ints] at f
    exact ⟨c, ns, rfl, .of (R.sub _ _ f), hQ _ _ (Post.dat R (.int _) φ)⟩) sy
end
end Z

/-! Z11: stars in displays, isinstance, dict comprehensions, cells given up. -/
namespace Z
open PySem PySem.Spec PyProof.Rows L2
section
variable {X : Cx} {k : Nat} {a b e f o : Expr} {es : List Expr} {pos p apos cpos : Pos} {Γ : GS} {M : MS} {Φ : W → MS → Prop} {x : Str}
theorem za_star {Ψ : List W → MS → Prop} (h : ZE X e Γ M fun y M1 => ∃ ds, AllW y M1 ds ∧ ZA X es Γ M1 fun zs M2 => Ψ (ds.map .d ++ zs) M2) (hs : starEach (.Starred e p :: es) X.env = (true, eval e X.env) :: starEach es X.env := by rfl) : ZA X (.Starred e p :: es) Γ M Ψ := fun F ι σ H R S => by
  refine w_a (StX.pa_star pe_w pa_w hs) ((h F ι σ H R S).mono ?_)
  rintro v H1 ⟨F1, ι1, M1, y, E1, R1, ry, ds, hy, ha⟩
  obtain ⟨c, vs, rfl, hc, r⟩ := hy.at R1 ry
  refine ⟨c, vs, rfl, ?_, (ha F1 ι1 σ H1 R1 (E1.slots S)).mono ?_⟩
  · rcases hc with h1 | ⟨f, _⟩
    · exact .inr (.of h1)
    · exact .inl (.of (R1.sub _ _ f))
  · rintro us H2 ⟨F2, ι2, M2, zs, E2, R2, rz, ψ⟩
    exact ⟨F2, ι2, M2, _, E1.trans E2, R2, (E2.rws (RWs.of r)).app rz, ψ⟩

/-! ### isinstance -/
def tyD : PyData → String
  | .none => "NoneType"
  | .bool _ => "bool"
  | .int _ => "int"
  | .str _ => "str"
  | .list _ => "list"
  | .tuple _ => "tuple"
  | .dict _ => "dict"
theorem ty_ok {K : PySem.W.Frag} {F H : Hp} {v : V} {d : PyData} (s : Same F H) (h : At F v d) : TyX K H v (.type (tyD d)) := by
  cases h with
  | non => exact .base .non
  | bl b => exact .base (.bl b)
  | int b => exact .base (.int b)
  | str b => exact .base (.str b)
  | lst h _ => exact .base (.lst (s _ _ h))
  | tup h _ => exact .base (.tup (s _ _ h))
  | dic h _ => exact .base (.dK (s _ _ h))
def isTy (t n : String) : Bool := t == n || (t == "bool" && n == "int")
theorem isTy_ok {K : PySem.W.Frag} (d : PyData) {n : String} (h : n = "int" ∨ n = "bool" ∨ n = "str" ∨ n = "tuple" ∨ n = "list" ∨ n = "dict") : PySem.W.kitOne K (.type (tyD d)) (.type n) = some (isTy (tyD d) n) := by
  have key : ∀ t ∈ ["NoneType", "bool", "int", "str", "list", "tuple", "dict"], ∀ n ∈ ["int", "bool", "str", "tuple", "list", "dict"], kitB t n = some (isTy t n) := by decide +kernel
  exact kit_ty (key _ (by cases d <;> simp [tyD]) n (by simpa using h))
theorem zk_isi {n : Str} {T : String} {p' : Pos} (hm : X.mg "isinstance" = none) (hn : X.mg n = none) (hb : bootBuiltins n = some (.type T)) (hT : T = "int" ∨ T = "bool" ∨ T = "str" ∨ T = "tuple" ∨ T = "list" ∨ T = "dict")
    (h : ZE X e Γ M fun y M1 => ∃ d, y = .d d ∧ Φ (.d (.bool (isTy (tyD d) T))) M1) (hg : Gl X "isinstance" := by rfl) (hg2 : Gl X n := by rfl) (sy : CSyn X e [.Name n p'] pos := by exact ⟨by rfl, by rfl⟩) (sy2 : CSyn X (.Name n p') [] pos := by exact ⟨by rfl, by rfl⟩)
    (hnn : n ≠ "__name__" := by decide) (hdb : (n == ("__debug__" : Str)) = false := by decide) : ZE X (.Call (.Name "isinstance" p) [e, .Name n p'] [] pos) Γ M Φ := fun F ι σ H R S => by
  refine w_e (pe_callB call_isi hg hm bt_isinstance (pa_cons pe_w (pa_cons (pe_bltn (v := .ty T) hg2 hn hb rfl hnn hdb) pa_nil sy2.star) sy.star) (by decide) (by decide) sy.star sy.plain) ((h F ι σ H R S).mono ?_)
  rintro v H1 ⟨F1, ι1, M1, y, E1, R1, ry, d, rfl, φ⟩
  exact ⟨v, .ty T, _, _, _, rfl, .ty T, ty_ok R1.sub ry, isTy_ok d hT, F1, ι1, M1, _, E1, R1, .dat (.bl _), φ⟩

/-! ### cells given up -/
def InbW (n : Nat) : W → Prop
  | .d _ => True
  | .m j => j < n
def InbO (n : Nat) : MO → Prop
  | .gone => True
  | .lst ws => ∀ w ∈ ws, InbW n w
  | .dic ks => ∀ q ∈ ks, InbW n q.2
  | .dil ks => ∀ q ∈ ks, InbW n q.2
/-- the cells name no cell beyond -/
def Cl (M : MS) : Prop := ∀ mo ∈ M, InbO M.length mo
theorem RW.inb {F : Hp} {ι : List Addr} {v : V} {w : W} (h : RW F ι v w) : InbW ι.length w := by
  cases w with
  | d x => trivial
  | m j => obtain ⟨a, e, _⟩ := h; exact (List.getElem?_eq_some_iff.mp e).1
theorem paired_right {α β : Type} {R : α → β → Prop} {P : β → Prop} (k : ∀ a b, R a b → P b) : ∀ {xs : List α} {ys : List β}, Paired R xs ys → ∀ y ∈ ys, P y
  | _, _, .nil, _, h => absurd h (by simp)
  | _, _, .cons r t, y, h => by
    rcases List.mem_cons.mp h with rfl | h
    · exact k _ _ r
    · exact paired_right k t y h
theorem MOk.inb {F : Hp} {ι : List Addr} {mo : MO} {o : HO} (h : MOk F ι mo o) : InbO ι.length mo := by
  cases mo with
  | gone => trivial
  | lst ws => obtain ⟨vs, _, r⟩ := h; exact paired_right (fun _ _ q => q.inb) r
  | dic ws => obtain ⟨vs, _, r⟩ := h; exact paired_right (P := fun q : Key × W => InbW ι.length q.2) (fun _ _ q => q.2.inb) r
  | dil ws => obtain ⟨_, vs, _, r⟩ := h; exact paired_right (P := fun q : Key × W => InbW ι.length q.2) (fun _ _ q => q.2.inb) r
theorem Rep.cl {F H : Hp} {ι : List Addr} {M : MS} (R : Rep F H ι M) : Cl M := fun mo h => by
  obtain ⟨k, hk, e⟩ := List.getElem_of_mem h
  have hk' : k < ι.length := by rw [R.len]; exact hk
  rcases R.at_ k ι[k] mo (List.getElem?_eq_getElem hk') (by rw [List.getElem?_eq_getElem hk, e]) with z | ⟨_, o, _, q⟩
  · subst z; trivial
  · rw [← R.len]; exact q.inb
theorem RW.cut {F : Hp} {ι : List Addr} {n : Nat} {v : V} {w : W} (h : RW F ι v w) (hw : InbW n w) : RW F (ι.take n) v w := by
  cases w with
  | d x => exact h
  | m j => obtain ⟨a, e, q⟩ := h; exact ⟨a, by rw [List.getElem?_take_of_lt hw]; exact e, q⟩
theorem paired_cut {α β : Type} {R R' : α → β → Prop} {P : β → Prop} (k : ∀ a b, R a b → P b → R' a b) : ∀ {xs : List α} {ys : List β}, Paired R xs ys → (∀ y ∈ ys, P y) → Paired R' xs ys
  | _, _, .nil, _ => .nil
  | _, _, .cons r t, h => .cons (k _ _ r (h _ (by simp))) (paired_cut k t fun y hy => h y (by simp [hy]))
/-- the last cells are forgotten -/
theorem Rep.drop {F H : Hp} {ι : List Addr} {M M' : MS} (R : Rep F H ι (M ++ M')) (c : Cl M) : Rep F H (ι.take M.length) M := by
  have hl := R.len
  rw [List.length_append] at hl
  refine ⟨R.sub, by rw [List.length_take]; omega, R.nd.sublist (List.take_sublist _ _), fun a h => R.tr a (List.mem_of_mem_take h), fun k a mo h1 h2 => ?_⟩
  have hk : k < M.length := (List.getElem?_eq_some_iff.mp h2).1
  rw [List.getElem?_take_of_lt hk] at h1
  have inb := c mo (List.mem_of_getElem? h2)
  rcases R.at_ k a mo h1 (by rw [List.getElem?_append_left hk]; exact h2) with z | ⟨z1, o, z2, z3⟩
  · exact .inl z
  · refine .inr ⟨z1, o, z2, ?_⟩
    cases mo with
    | gone => trivial
    | lst ws => obtain ⟨vs, e, r⟩ := z3; exact ⟨vs, e, paired_cut (fun _ _ q i => q.cut i) r inb⟩
    | dic ws => obtain ⟨vs, e, r⟩ := z3; exact ⟨vs, e, paired_cut (P := fun q : Key × W => InbW M.length q.2) (fun _ _ q i => ⟨q.1, q.2.cut i⟩) r inb⟩
    | dil ws => obtain ⟨od, vs, e, r⟩ := z3; exact ⟨od, vs, e, paired_cut (P := fun q : Key × W => InbW M.length q.2) (fun _ _ q i => ⟨q.1, q.2.cut i⟩) r inb⟩
/-- how a def may end: what it returns may become data for good, new cells may be forgotten -/
inductive Fin (n : Nat) (Φ : W → MS → Prop) : W → MS → Prop
  | ok {w : W} {M : MS} : Φ w M → Fin n Φ w M
  | drop {w : W} {M J : MS} : n ≤ M.length → Cl M → InbW M.length w → Fin n Φ w M → Fin n Φ w (M ++ J)
  | frz {k : Nat} {ds : List PyData} {M : MS} : M[k]? = some (.lst (ds.map .d)) → Fin n Φ (.d (.list ds)) (M.set k .gone) → Fin n Φ (.m k) M
  | frzD {k : Nat} {kws : List (Key × PyData)} {M : MS} : M[k]? = some (.dic (kws.map fun q => (q.1, .d q.2))) → Fin n Φ (.d (dictK kws)) (M.set k .gone) → Fin n Φ (.m k) M
theorem RKs.dat {F : Hp} {ι : List Addr} : ∀ {vs : List (Key × V)} {ws : List (Key × PyData)}, RKs F ι vs (ws.map fun q => (q.1, .d q.2)) → AtKv F vs (ws.map fun q => (keyD q.1, q.2))
  | _, [], h => by cases h; exact .nil
  | _, q :: ws, h => by
    cases h with
    | @cons p _ _ _ a b =>
      obtain ⟨k, v⟩ := p
      obtain ⟨e, r⟩ := a
      have e : k = q.1 := e
      subst e
      exact .cons r (RKs.dat b)
theorem fin_post {F H H' : Hp} {ι : List Addr} {v : V} {w : W} {n : Nat} {M' : MS} (h : Fin n Φ w M') : ∀ {F' ι'}, ι.length = n → Ext F ι H F' ι' H' → Rep F' H' ι' M' → RW F' ι' v w → Post F ι H Φ v H' := by
  induction h with
  | ok φ => exact fun hn E R r => ⟨_, _, _, _, E, R, r, φ⟩
  | @drop w M J hm c i _ ih =>
    intro F' ι' hn E R r
    obtain ⟨t, e⟩ := E.pre
    have hl := R.len
    rw [List.length_append] at hl
    refine ih hn ⟨E.same, ?_, E.kp, fun a h1 h2 => E.fr a (List.mem_of_mem_take h1) h2, E.nw, E.fz⟩ (R.drop c) (r.cut i)
    refine ⟨t.take (M.length - ι.length), ?_⟩
    rw [e, List.take_append, List.take_of_length_le (by omega)]
  | @frz k ds M hk _ ih =>
    intro F' ι' hn E R r
    obtain ⟨c, vs, rfl, hc, h1, q⟩ := cell_at R r hk
    obtain ⟨E2, R2⟩ := R.freeze hc hk (by intro z; cases z) h1
    exact ih hn (E.trans E2) R2 (.dat (.lst upd_same ((RWs.dat q).up E2.same)))
  | @frzD k kws M hk _ ih =>
    intro F' ι' hn E R r
    obtain ⟨c, vs, rfl, hc, h1, q⟩ := dic_at R r hk
    obtain ⟨E2, R2⟩ := R.freeze hc hk (by intro z; cases z) h1
    exact ih hn (E.trans E2) R2 (.dat (.dic upd_same ((RKs.dat q).up E2.same)))
/-- an expression's value becomes data, new cells are forgotten -/
theorem ze_fin (h : ZE X e Γ M (Fin M.length Φ)) : ZE X e Γ M Φ := fun F ι σ H R S => (h F ι σ H R S).mono fun v H' ⟨F', ι', M', w, E, R', r, q⟩ => fin_post q R.len E R' r
/-- a local list becomes data for good -/
theorem zs_frz {st : List Stmt} {D : ZD} (i j : Nat) {ds : List PyData} (h0 : Γ[i]? = some (some (.m j))) (hm : M[j]? = some (.lst (ds.map .d))) (h : ZSs X st (Γ.set i (some (.d (.list ds)))) (M.set j .gone) D) : ZSs X st Γ M D := fun F ι σ H R S => by
  obtain ⟨v, e1, r⟩ := S.get i _ h0
  obtain ⟨c, vs, rfl, hc, h1, q⟩ := cell_at R r hm
  obtain ⟨E2, R2⟩ := R.freeze hc hm (by intro z; cases z) h1
  have S2 := (E2.slots S).set i (v := .ref c) (w := .d (.list ds)) (.dat (.lst upd_same ((RWs.dat q).up E2.same)))
  have e2 : σ.set i (some (.ref c)) = σ := by
    refine List.ext_getElem? fun n => ?_
    by_cases hn : i = n
    · subst hn
      rw [List.getElem?_set_self (List.getElem?_eq_some_iff.mp e1).1, e1]
    · rw [List.getElem?_set_ne hn]
  rw [e2] at S2
  exact wSs.mono (h _ ι σ H R2 S2) (ends_ext E2 D)
theorem zs_frzD {st : List Stmt} {D : ZD} (i j : Nat) {kws : List (Key × PyData)} (h0 : Γ[i]? = some (some (.m j))) (hm : M[j]? = some (.dic (kws.map fun q => (q.1, .d q.2)))) (h : ZSs X st (Γ.set i (some (.d (dictK kws)))) (M.set j .gone) D) : ZSs X st Γ M D := fun F ι σ H R S => by
  obtain ⟨v, e1, r⟩ := S.get i _ h0
  obtain ⟨c, vs, rfl, hc, h1, q⟩ := dic_at R r hm
  obtain ⟨E2, R2⟩ := R.freeze hc hm (by intro z; cases z) h1
  have S2 := (E2.slots S).set i (v := .ref c) (w := .d (dictK kws)) (.dat (.dic upd_same ((RKs.dat q).up E2.same)))
  have e2 : σ.set i (some (.ref c)) = σ := by
    refine List.ext_getElem? fun n => ?_
    by_cases hn : i = n
    · subst hn
      rw [List.getElem?_set_self (List.getElem?_eq_some_iff.mp e1).1, e1]
    · rw [List.getElem?_set_ne hn]
  rw [e2] at S2
  exact wSs.mono (h _ ι σ H R2 S2) (ends_ext E2 D)
theorem zs_cl {st : List Stmt} {D : ZD} (h : Cl M → ZSs X st Γ M D) : ZSs X st Γ M D := fun F ι σ H R S => h R.cl F ι σ H R S
theorem zs_fin {st : List Stmt} {D : ZD} (h : ZSs X st Γ M { D with nx := D.nx, rt := Fin M.length D.rt }) : ZSs X st Γ M D := fun F ι σ H R S =>
  wSs.mono (h F ι σ H R S) ⟨fun _ _ q => q, fun v H' ⟨F', ι', M', w, E, R', r, q⟩ => fin_post q R.len E R' r, fun _ _ q => q, fun _ _ q => q⟩
end
end Z

/-! Z12: dict comprehensions; comprehensions of plain maps; sorted of a dict. -/
namespace Z
open PySem PySem.Spec PyProof.Rows L2
section
variable {X : Cx} {tg it kx vx elt e : Expr} {ifs : List Expr} {scope : Scope} {Γ : GS} {M : MS} {D : ZD} {pos p : Pos} {Φ : W → MS → Prop}
structure DcT (X : Cx) (vs : List Nat) (tg kx vx : Expr) (ifs : List Expr) (scope : Scope) (ds : List PyData) (Γ : GS) (M : MS) (I : Nat → List (Key × W) → MS → Prop) (Φ : List (Key × W) → MS → Prop) : Prop where
  zero : I 0 [] M
  turn : ∀ i d acc M1, ds[i]? = some d → I i acc M1 → ∀ B, ZGB (bk X scope B) vs tg (.d d) (wipeG Γ vs) M1 fun Γ2 M2 => ∀ B, ZTs (bk X scope B) ifs Γ2 M2 fun b M3 =>
      if b = true then ∀ B, ZE (bk X scope B) kx Γ2 M3 fun y M4 => ∀ B, ZE (bk X scope B) vx Γ2 M4 fun z M5 => ∃ k, y = .d (keyD k) ∧ acc.length < sizeLine ∧ I (i + 1) (putW acc k z) M5 else I (i + 1) acc M3
  done : ∀ acc M1, I ds.length acc M1 → Φ acc M1
theorem dc_read {vs : List Nat} {F : Hp} {ι : List Addr} {σ : St} {H : Hp} {Φl : List (Key × W) → MS → Prop} {Q : VK} (S : Slots F ι σ Γ) (R : Rep F H ι M)
    (h : ZI X tg it Γ M fun ds M1 => ∃ I, DcT X vs tg kx vx ifs scope ds Γ M1 I Φl)
    (fin : ∀ L H' F' ι' M' acc us, Ext F ι H F' ι' H' → Rep F' H' ι' M' → H' L = some (.dK us) → RKs F' ι' us acc → F' L = none → L ∉ ι' → H L = none → Φl acc M' → Q (.ref L) H') :
    tDc (wI X tg it) (bG X scope tg) (bTs X scope ifs) (bE X scope kx) (bE X scope vx) vs σ H Q := by
  refine (h F ι σ H R S).mono ?_
  rintro J H1 ⟨F1, ι1, M1, ds, E1, R1, yd, I, T⟩ L nL
  have nF1 : F1 L = none := R1.sub.free nL
  have nι1 : L ∉ ι1 := fun z => by
    obtain ⟨o, e⟩ := R1.tr L z
    rw [nL] at e; cases e
  have nι : L ∉ ι := fun z => by
    obtain ⟨r, rfl⟩ := E1.pre
    exact nι1 (List.mem_append_left r z)
  have nH : H L = none := by
    cases e : H L with
    | none => rfl
    | some o => rw [E1.kp L o e nι] at nL; cases nL
  let W : Nat → Hp → Prop := fun i H' => i ≤ ds.length ∧ ∃ F' ι' M' acc us, Ext F ι H F' ι' H' ∧ Kp F1 H1 F' H' ∧ Rep F' H' ι' M' ∧ H' L = some (.dK us) ∧ RKs F' ι' us acc ∧ F' L = none ∧ L ∉ ι' ∧ I i acc M'
  have put : ∀ {F' ι' H' o}, Ext F ι H F' ι' H' → Ext F ι H F' ι' (upd H' L o) := fun E => ⟨E.same, E.pre, fun a x e m => by
    rw [upd_ne (ne_of_none e nH)]; exact E.kp a x e m, E.fr, E.nw, fun a od u e => by rw [upd_ne (ne_of_none e nH)]; exact E.fz a od u e⟩
  refine ⟨fun i m H' => m = ds.length - i ∧ W i H', ⟨ds.length, rfl, Nat.zero_le _, F1, ι1, M1, [], [], put E1, Kp.refl.put nL, out_put R1 nF1 nι1, upd_same, .nil, nF1, nι1, T.zero⟩, ?_⟩
  rintro i m H' ⟨rfl, hi, F2, ι2, M2, acc, us, E2, s2, R2, hL, ha, nF2, nι2, hI⟩
  have y := yd F2 H' s2 R2.sub i
  by_cases hlt : i < ds.length
  · obtain ⟨go, st⟩ := y.1 _ (List.getElem?_eq_getElem hlt)
    refine .inr ⟨go, W (i + 1), fun H3 w3 => ⟨ds.length - (i + 1), by omega, rfl, w3⟩, fun x H3 hy B => ?_⟩
    obtain ⟨F3, g, ax⟩ := st x H3 hy
    obtain ⟨E3, R3⟩ := R2.grow g
    have tn := T.turn i _ acc M2 (List.getElem?_eq_getElem hlt) hI
    refine wG.mono (tn B F3 ι2 _ H3 x R3 ((E3.slots (E2.slots S)).wipe vs) ax) ?_
    rintro σ4 H4 ⟨hw, F4, ι4, M4, Γ4, E4, R4, S4, h4⟩
    rw [wipe_wipe] at hw
    obtain ⟨hL3, nF3, nι3⟩ := out_kept E3 hL nF2 nι2
    obtain ⟨hL4, nF4, nι4⟩ := out_kept E4 hL3 nF3 nι3
    refine ⟨hw, fun B => wTs.mono (h4 B F4 ι4 σ4 H4 R4 S4) ?_⟩
    rintro b H5 ⟨F5, ι5, M5, E5, R5, h5⟩
    obtain ⟨hL5, nF5, nι5⟩ := out_kept E5 hL4 nF4 nι4
    have E25 := (((E2.trans E3).trans E4).trans E5)
    have s5 : Kp F1 H1 F5 H5 := ((s2.step E3).step E4).step E5
    have ha5 : RKs F5 ι5 us acc := ((E3.trans E4).trans E5).rks ha
    cases b with
    | false =>
      rw [if_neg Bool.false_ne_true] at h5 ⊢
      exact ⟨hlt, F5, ι5, M5, acc, us, E25, s5, R5, hL5, ha5, nF5, nι5, h5⟩
    | true =>
      rw [if_pos rfl] at h5 ⊢
      refine fun B => wE.mono (h5 B F5 ι5 σ4 H5 R5 (E5.slots S4)) ?_
      rintro y6 H6 ⟨F6, ι6, M6, yw, E6, R6, ry, h6⟩
      obtain ⟨hL6, nF6, nι6⟩ := out_kept E6 hL5 nF5 nι5
      refine fun B => wE.mono (h6 B F6 ι6 σ4 H6 R6 ((E5.trans E6).slots S4)) ?_
      rintro z H7 ⟨F7, ι7, M7, zw, E7, R7, rz, k, rfl, hz, h7⟩
      obtain ⟨hL7, nF7, nι7⟩ := out_kept E7 hL6 nF6 nι6
      have ha7 := (E6.trans E7).rks ha5
      exact ⟨us, k, kV_at ry, hL7, by rw [ha.len]; exact hz, hlt, F7, ι7, M7, putW acc k zw, putK us k z, put ((E25.trans E6).trans E7), ((s5.step E6).step E7).put nL, out_put R7 nF7 nι7, upd_same, ha7.put rz, nF7, nι7, h7⟩
  · have e : i = ds.length := by omega
    subst e
    exact .inl ⟨y.2 (Nat.le_refl _), fin L H' F2 ι2 M2 acc us E2 R2 hL ha nF2 nι2 nH (T.done acc M2 hI)⟩
/-- {kx: vx for tg in it if ..} that is to be changed (or read as a cell) -/
theorem ze_dcM {own : List (Str × Nat)} (hc : X.calm = true) (hN : X.N.Nodup) (ok : BlkOk X.N X.env.scope scope own)
    (h : ZI X tg it Γ M fun ds M1 => ∃ I, DcT X (own.map (·.2)) tg kx vx ifs scope ds Γ M1 I fun acc M2 => Φ (.m M2.length) (M2 ++ [.dic acc])) (hs : ∀ x, foldedSetIterable it X.env x = pure x := by intro _; rfl) :
    ZE X (.DictComp kx vx [⟨tg, it, ifs, 0⟩] scope pos) Γ M Φ := fun F ι σ H R S => by
  refine w_e (pe_dc hc hN pi_w ok pg_b pts_b pe_b pe_b hs) (dc_read S R h ?_)
  rintro L H' F' ι' M' acc us E R' hL ha nF nι nH φ
  obtain ⟨E2, R2⟩ := out_cell (mo := .dic acc) E R' hL nF nι nH ⟨us, rfl, ha⟩
  exact ⟨_, _, _, .m M'.length, E2, R2, RW.m (by rw [← R'.len, List.getElem?_append_right (Nat.le_refl _)]; simp), φ⟩
/-- .. as data -/
theorem ze_dc {own : List (Str × Nat)} (hc : X.calm = true) (hN : X.N.Nodup) (ok : BlkOk X.N X.env.scope scope own)
    (h : ZI X tg it Γ M fun ds M1 => ∃ I, DcT X (own.map (·.2)) tg kx vx ifs scope ds Γ M1 I fun acc M2 => ∃ kws, acc = kws.map (fun q => (q.1, W.d q.2)) ∧ Φ (.d (dictK kws)) M2) (hs : ∀ x, foldedSetIterable it X.env x = pure x := by intro _; rfl) :
    ZE X (.DictComp kx vx [⟨tg, it, ifs, 0⟩] scope pos) Γ M Φ := fun F ι σ H R S => by
  refine w_e (pe_dc hc hN pi_w ok pg_b pts_b pe_b pe_b hs) (dc_read S R h ?_)
  rintro L H' F' ι' M' acc us E R' hL ha nF nι nH ⟨kws, rfl, φ⟩
  obtain ⟨E2, R2⟩ := out_lay E R' hL nF nι nH
  have sF : Same F' (upd F' L (.dK us)) := fun b x e => by rw [upd_ne (ne_of_none e nF)]; exact e
  exact ⟨_, _, _, .d (dictK kws), E2, R2, .dat (.dic upd_same ((RKs.dat ha).up sF)), φ⟩
theorem ze_dnew (h : Φ (.m M.length) (M ++ [.dic []])) : ZE X (.Dict [] [] pos) Γ M Φ := fun F ι σ H R S => w_e pe_dnewK fun p n => by
  obtain ⟨E, R'⟩ := R.new (o := .dK []) (mo := .dic []) n ⟨[], rfl, .nil⟩
  exact ⟨_, _, _, .m M.length, E, R', RW.m (by rw [← R.len, List.getElem?_append_right (Nat.le_refl _)]; simp), h⟩
theorem ze_dnil (h : Φ (.d (.dict [])) M) : ZE X (.Dict [] [] pos) Γ M Φ := fun F ι σ H R S => w_e pe_dnewK fun p n => by
  obtain ⟨E, R'⟩ := R.lay (o := .dK []) n
  exact ⟨_, _, _, _, E, R', .dat (.dic upd_same .nil), h⟩
/-- sorted of a dict's names -/
theorem zk_sortedD (hm : X.mg "sorted" = none) (hc : X.calm = true) (h : ZE X e Γ M fun y M1 => ∃ ss : List Str, ((∃ kws, y = .d (dictK kws) ∧ kws.map (·.1) = ss.map Sum.inr) ∨ ∃ j kws, y = .m j ∧ M1[j]? = some (.dic kws) ∧ kws.map (·.1) = ss.map Sum.inr) ∧ ss.length < 64 ∧ Φ (.d (.list ((sortS ss).map .str))) M1)
    (hg : Gl X "sorted" := by rfl) (sy : CSyn X e [] pos := by exact ⟨by rfl, by rfl⟩) : ZE X (.Call (.Name "sorted" p) [e] [] pos) Γ M Φ :=
  zb1 (call_sortedD hc) hm bt_sorted hg h (fun F ι H M v y Q R rv ψ hQ => by
    obtain ⟨ss, hy, h64, φ⟩ := ψ
    have key : ∃ c us, v = .ref c ∧ H c = some (.dK us) ∧ us.map (·.1) = ss.map Sum.inr := by
      rcases hy with ⟨kws, rfl, e⟩ | ⟨j, kws, rfl, hj, e⟩
      · obtain ⟨c, us, rfl, f, r⟩ := At.dic_ rv
        refine ⟨c, us, rfl, R.sub _ _ f, ?_⟩
        have := r.keys
        rw [List.map_map] at this
        rw [← e]
        refine List.map_inj_right (f := keyD) (fun a b => keyD_inj) |>.mp ?_
        rw [List.map_map, List.map_map]
        exact this.symm
      · obtain ⟨c, us, rfl, _, h1, r⟩ := dic_at R rv hj
        refine ⟨c, us, rfl, h1, ?_⟩
        rw [← e]
        clear h1 hj e φ
        induction r with
        | nil => rfl
        | cons a b ih => rw [List.map_cons, List.map_cons, a.1, ih]
    obtain ⟨c, us, rfl, hc, e⟩ := key
    refine ⟨c, us, ss, rfl, .inl hc, e, h64, fun ys q pm so n => ?_⟩
    rw [sortS_of pm (sorted_pw so)]
    exact lay_lst R .of_strs φ hQ q n) sy
end
end Z

/-! Z13: comprehensions of plain maps. -/
namespace Z
open PySem PySem.Spec PyProof.Rows L2
section
variable {X : Cx} {tg it elt : Expr} {ifs : List Expr} {scope : Scope} {Γ : GS} {M : MS} {vs : List Nat} {α : Type}
/-- each item gives one or none, nothing changes -/
theorem LcT.pure (xs : List α) (enc : α → PyData) (g : α → Option PyData) {Φ : List W → MS → Prop} (hl : xs.length < sizeLine)
    (turn : ∀ x ∈ xs, ∀ B, ZGB (bk X scope B) vs tg (.d (enc x)) (wipeG Γ vs) M fun Γ2 M2 => ∀ B, ZTs (bk X scope B) ifs Γ2 M2 fun b M3 => if b = true then ∀ B, ZE (bk X scope B) elt Γ2 M3 fun y M4 => (∃ z, y = .d z ∧ g x = some z) ∧ M4 = M else g x = none ∧ M3 = M)
    (done : Φ ((xs.filterMap g).map .d) M) : ∃ I, LcT X vs tg elt ifs scope (xs.map enc) Γ M I Φ := by
  refine ⟨fun i acc M1 => M1 = M ∧ acc = ((xs.take i).filterMap g).map .d, ⟨rfl, rfl⟩, fun i d acc M1 hd ⟨e1, e2⟩ B => ?_, fun acc M1 ⟨e1, e2⟩ => ?_⟩
  · subst e1 e2
    rw [List.getElem?_map] at hd
    cases hx : xs[i]? with
    | none => rw [hx] at hd; cases hd
    | some x =>
      rw [hx] at hd
      cases hd
      have hm : x ∈ xs := List.mem_of_getElem? hx
      have tk : xs.take (i + 1) = xs.take i ++ [x] := by rw [List.take_add_one, hx]; rfl
      intro F ι σ H v R S r
      refine wG.mono (turn x hm B F ι σ H v R S r) ?_
      rintro σ' H' ⟨hw, F1, ι1, M2, Γ2, E1, R1, S1, h⟩
      refine ⟨hw, F1, ι1, M2, Γ2, E1, R1, S1, fun B F ι σ H R S => wTs.mono (h B F ι σ H R S) ?_⟩
      rintro b H2 ⟨F2, ι2, M3, E2, R2, h2⟩
      refine ⟨F2, ι2, M3, E2, R2, ?_⟩
      cases b with
      | false =>
        rw [if_neg Bool.false_ne_true] at h2 ⊢
        refine ⟨h2.2, ?_⟩
        rw [tk, List.filterMap_append, show [x].filterMap g = [] by simp [h2.1], List.append_nil]
      | true =>
        rw [if_pos rfl] at h2 ⊢
        refine fun B => (h2 B).mono ?_
        rintro y M4 ⟨⟨z, rfl, hg⟩, rfl⟩
        refine ⟨?_, rfl, ?_⟩
        · rw [List.length_map]
          refine Nat.lt_of_le_of_lt ?_ hl
          exact Nat.le_trans (List.length_filterMap_le _ _) (by rw [List.length_take]; exact Nat.min_le_right _ _)
        · rw [tk, List.filterMap_append, show [x].filterMap g = [z] by simp [hg], List.map_append]
          rfl
  · subst e1 e2
    rw [List.length_map, List.take_length]
    exact done
theorem LcT.map (xs : List α) (enc : α → PyData) (f : α → PyData) {Φ : List W → MS → Prop} (hl : xs.length < sizeLine)
    (turn : ∀ x ∈ xs, ∀ B, ZGB (bk X scope B) vs tg (.d (enc x)) (wipeG Γ vs) M fun Γ2 M2 => ∀ B, ZE (bk X scope B) elt Γ2 M2 fun y M4 => y = .d (f x) ∧ M4 = M)
    (done : Φ ((xs.map f).map .d) M) : ∃ I, LcT X vs tg elt [] scope (xs.map enc) Γ M I Φ := by
  have e : xs.filterMap (fun x => some (f x)) = xs.map f := by simp
  refine LcT.pure xs enc (fun x => some (f x)) hl (fun x hx B F ι σ H v R S r => wG.mono (turn x hx B F ι σ H v R S r) ?_) (by rw [e]; exact done)
  rintro σ' H' ⟨hw, F1, ι1, M2, Γ2, E1, R1, S1, h⟩
  exact ⟨hw, F1, ι1, M2, Γ2, E1, R1, S1, fun B => zts_nil (by rw [if_pos rfl]; exact fun B => (h B).mono fun y M4 ⟨a, b⟩ => ⟨⟨_, a, rfl⟩, b⟩)⟩
/-- each item gives one, of what the draws may give: the elements have the property P -/
theorem LcT.any (ds : List PyData) (J : MS → Prop) (P : PyData → Prop) {Φ : List W → MS → Prop} (hl : ds.length < sizeLine) (h0 : J M)
    (turn : ∀ d ∈ ds, ∀ M1, J M1 → ∀ B, ZGB (bk X scope B) vs tg (.d d) (wipeG Γ vs) M1 fun Γ2 M2 => ∀ B, ZE (bk X scope B) elt Γ2 M2 fun y M4 => (∃ z, y = .d z ∧ P z) ∧ J M4)
    (done : ∀ (zs : List PyData) M1, zs.length = ds.length → (∀ z ∈ zs, P z) → J M1 → Φ (zs.map .d) M1) : ∃ I, LcT X vs tg elt [] scope ds Γ M I Φ := by
  refine ⟨fun i acc M1 => J M1 ∧ i ≤ ds.length ∧ ∃ zs : List PyData, acc = zs.map .d ∧ zs.length = i ∧ ∀ z ∈ zs, P z, ⟨h0, Nat.zero_le _, [], rfl, rfl, by simp⟩, fun i d acc M1 hd ⟨hJ, hi, zs, e, hz, hP⟩ B => ?_, fun acc M1 ⟨hJ, _, zs, e, hz, hP⟩ => by rw [e]; exact done zs M1 hz hP hJ⟩
  subst e
  have hlt := (List.getElem?_eq_some_iff.mp hd).1
  intro F ι σ H v R S r
  refine wG.mono (turn d (List.mem_of_getElem? hd) M1 hJ B F ι σ H v R S r) ?_
  rintro σ' H' ⟨hw, F1, ι1, M2, Γ2, E1, R1, S1, h⟩
  refine ⟨hw, F1, ι1, M2, Γ2, E1, R1, S1, fun B => zts_nil (by
    rw [if_pos rfl]
    refine fun B => (h B).mono ?_
    rintro y M4 ⟨⟨z, rfl, hp⟩, hJ4⟩
    refine ⟨by rw [List.length_map]; omega, hJ4, hlt, zs ++ [z], by simp, by simp [hz], fun w hw => ?_⟩
    rcases List.mem_append.mp hw with q | q
    · exact hP w q
    · rw [List.mem_singleton.mp q]; exact hp)⟩
end
end Z

/-! Z14: small help; the bag of draws. -/
namespace Z
open PySem PySem.Spec PyProof.Rows L2
theorem ifd {p : Prop} [Decidable p] {A B : Prop} (h1 : p → A) (h2 : ¬p → B) : if decide p = true then A else B := by
  by_cases h : p
  · rw [if_pos (decide_eq_true h)]; exact h1 h
  · rw [if_neg (by simpa using h)]; exact h2 h
theorem ifb {p : Bool} {A B : Prop} (h1 : p = true → A) (h2 : p = false → B) : if p = true then A else B := by
  cases p with
  | true => rw [if_pos rfl]; exact h1 rfl
  | false => rw [if_neg Bool.false_ne_true]; exact h2 rfl
theorem ift {A B : Prop} (h : A) : if true = true then A else B := by rw [if_pos rfl]; exact h
theorem iff_ {A B : Prop} (h : B) : if false = true then A else B := by rw [if_neg Bool.false_ne_true]; exact h
/-- two ints asked alike -/
theorem ifeq {i j : Int} {A B : Prop} (h1 : i = j → A) (h2 : i ≠ j → B) : if PyData.eqv (.int i) (.int j) = true then A else B := by
  by_cases h : i = j
  · subst h; rw [if_pos (by simp [PyData.eqv])]; exact h1 rfl
  · rw [if_neg (by simpa [PyData.eqv] using h)]; exact h2 h
theorem ifeqs {i j : Str} {A B : Prop} (h1 : i = j → A) (h2 : i ≠ j → B) : if PyData.eqv (.str i) (.str j) = true then A else B := by
  by_cases h : i = j
  · subst h; rw [if_pos (by simp [PyData.eqv])]; exact h1 rfl
  · rw [if_neg (by simpa [PyData.eqv] using h)]; exact h2 h
/-- the bag -/
structure Bag where
  cur : Int
  st : Int
  ix : Int
  cells : List Int
structure Bag.Good (b : Bag) : Prop where
  cur : 0 ≤ b.cur
  st : 0 ≤ b.st
  st2 : b.st < 2147483647
  ix : 0 ≤ b.ix
  len : b.cells.length ≤ 63
  all : ∀ c ∈ b.cells, 0 ≤ c
def bagO (b : Bag) : MO := .lst [.d (.int b.cur), .d (.int b.st), .d (.int b.ix), .d (.list (b.cells.map .int))]
theorem sx {n : Nat} {i : Int} (h : 0 ≤ i) (d : Nat) : HT.sIx n d (some i) = min i.toNat n := by
  show (if i < 0 then (i + (n : Int)).toNat else min i.toNat n) = _
  rw [if_neg (by omega)]
theorem cutD_len {α : Type} (xs : List α) (lo hi : Option Int) : (cutD xs lo hi).length ≤ xs.length := by
  unfold cutD
  rw [List.length_take, List.length_drop]
  omega
theorem cutD_mem {α : Type} {xs : List α} {lo hi : Option Int} {x : α} (h : x ∈ cutD xs lo hi) : x ∈ xs := List.mem_of_mem_drop (List.mem_of_mem_take h)
theorem cutD_map {α β : Type} (f : α → β) (xs : List α) (lo hi : Option Int) : cutD (xs.map f) lo hi = (cutD xs lo hi).map f := by
  unfold cutD
  rw [List.length_map, List.map_take, List.map_drop]
theorem atI_nat {α : Type} {xs : List α} {n : Nat} {x : α} (h : xs[n]? = some x) : atI xs (n : Int) = some x := by
  have := (List.getElem?_eq_some_iff.mp h).1
  have e : ixN xs.length (n : Int) = some n := by
    unfold ixN
    simp
    omega
  unfold atI
  rw [e]
  exact h
theorem atI_zero {α : Type} (x : α) (xs : List α) : atI (x :: xs) 0 = some x := atI_nat (n := 0) rfl
theorem bag_head {b : Bag} (g : b.Good) : ∃ c : Int, 0 ≤ c ∧ atI (cutD (b.cells.map PyData.int) (some b.ix) none ++ [.int 0]) 0 = some (.int c) := by
  rw [cutD_map]
  cases e : cutD b.cells (some b.ix) none with
  | nil => exact ⟨0, by decide, rfl⟩
  | cons c r =>
    have hm : c ∈ cutD b.cells (some b.ix) none := by rw [e]; exact List.mem_cons_self
    exact ⟨c, g.all c (cutD_mem hm), atI_zero _ _⟩
theorem bag_size {b : Bag} (g : b.Good) (lo : Option Int) : (cutD (b.cells.map PyData.int) lo none).length + 1 ≤ sizeLine := by
  have := cutD_len (b.cells.map PyData.int) lo none
  rw [List.length_map] at this
  have := g.len
  show _ ≤ 2 ^ 24
  omega
def takeS : ZSp := fun ws M Φ => ∃ (b : Bag) (R : MS) (many : Int), ws = [.m 0, .d (.int many)] ∧ M = bagO b :: R ∧ b.Good ∧ 0 < many ∧ many < 1073741824 ∧
  ∀ (r : Int) (b' : Bag), 0 ≤ r → r < many → b'.Good → Φ (.d (.int r)) (bagO b' :: R)
end Z

/-! Z15: sets of ints: set(list), set comprehensions, sorted of them. -/
namespace Z
open PySem PySem.Spec PyProof.Rows L2
/-- the object of an empty set -/
abbrev set0 (w : World) : Obj := { cls := .type "set", dict := none, data := .set #[] 0 (.fresh 0 0 (!w.params.followText "set-order")) }
section
variable {P : Program} {w : World} {A : Around} {E : Value → Shared → Prop} {s : Shared}
/-- set(l), l a list of ints -/
theorem set_ofList {l : Addr} {us : Array Value} (ns : List Int) {Q : Value → Shared → Prop} (hh : A.handled = none) (hl : s.heap.IsList l us) (hit : IntsAre us.toList ns) (hb : ns.length + 1 < scanBound)
    (h : ∀ (h' : Heap) (tk c : Nat), SetR w h' s.heap.objs.size (fun j => decide (j ∈ ns)) c → c ≤ ns.length → (∀ b o, s.heap.get? b = some o → h'.get? b = some o) → Q (.ref s.heap.objs.size) { s with heap := h', toks := tk }) :
    wpAny (model P w) A (call (.type "set") [.ref l]) Q E s := by
  generalize hp : s.heap.objs.size = p at h
  have sz : us.size = ns.length := by rw [← IntsAre.length hit, Array.length_toList]
  obtain ⟨c, tl, hmro⟩ := F.called_set.mro
  have hmade := F.called_set.made
  have hsub := F.called_set.sub
  refine wpAny_call (codeAny_of_tree ?_)
  show wpAny _ _ (callAny (.type "set") _) _ _ _
  refine wpAny_pure ⟨Code.quiet_builtin _ (by decide +kernel), codeAny_builtin F.entry_type_call ?_⟩
  rw [Around.under_plain (weight_type_call_type "set" [.ref l] []) rfl]
  have t1 := F.called_set.notType
  have t2 := F.called_set.canCreate
  have t3 := F.typeCall_set_1 (.ref l)
  repeat (any_goals (first | assumption | wp_step))
  generalize hH1 : s.heap.push (set0 w) = H1
  have new : H1.get? p = some (set0 w) := by rw [← hH1, ← hp]; exact Heap.get?_push_size _ rfl
  have old : ∀ b o, s.heap.get? b = some o → H1.get? b = some o := fun b o e => by rw [← hH1]; exact Heap.get?_push_of_some _ e
  have sz1 : H1.objs.size = p + 1 := by rw [← hH1, ← hp]; exact Heap.size_push ..
  refine codeAny_mono (code_set_led1 (.ref l) (E := E) (Q₁ := fun v s₁ => v = .ref p ∧ s₁ = { s with heap := H1 }) ⟨by rw [← hp], by rw [← hH1]⟩) fun r s₁ hr => ?_
  rcases r with e | f
  · exact hr
  cases f with
  | next => exact hr.elim
  | brk => exact hr.elim
  | cont => exact hr.elim
  | ret v =>
    obtain ⟨rfl, rfl⟩ := hr
    have ty : Shared.TypeIs { s with heap := H1 } (.ref p) "set" := ⟨_, new, rfl⟩
    have i1 := F.called_set.init.lookup
    have i2 := F.called_set.init.bind (.ref p)
    repeat (any_goals (first | assumption | wp_step))
    refine codeAny_mono (codeAny_call_builtin (R := wants (fun r s₂ => r = .none ∧ ∃ h' tk c, s₂ = { s with heap := h', toks := tk } ∧ SetR w h' p (fun j => decide (j ∈ ns)) c ∧ c ≤ ns.length ∧ ∀ b o, s.heap.get? b = some o → h'.get? b = some o) E)
      F.called_set.init.plain F.entry_set_init (check_set_init_1 ty ?_)) fun r₂ s₂ hr₂ => ?_
    · obtain ⟨⟨ocls, odict, odata, oslots⟩, hol, hcl, nl, hdl⟩ := hl
      simp only at hcl hdl
      subst hcl
      subst hdl
      have hol' := old _ _ hol
      have hsls := F.sub_list_set
      have hslf := F.sub_list_frozenset
      have hne : (Value.type "list" == Value.type "dict") = false := by decide
      have hl1 : H1.IsList l us := ⟨_, hol', rfl, nl, rfl⟩
      have lp : l < p := by rw [← hp]; exact Heap.lt_size hol
      unfold Builtin.«set.__init__» noKeywords Builtin.Frozenset.updateFrom
      generalize hPI : pyIter = PI
      wp_walk
      subst hPI
      refine wpAny_pyIter_list hl1 ?_
      refine wpAny_bind (wpAny_runValue ?_)
      refine set_update_ints ((Walks.list (by simp [hh]) _ l (by rw [sz1]; exact Nat.ne_of_lt (Nat.lt_succ_of_lt lp)) us).toS) p (by rw [sz1]; simp only [List.mem_cons, List.not_mem_nil, or_false, not_or]; exact ⟨Nat.ne_of_lt (Nat.lt_succ_self _), Nat.ne_of_gt lp⟩) ns sz hb (fun i v hv => ?_)
        (us.size - 0) 0 _ (by omega) (Nat.zero_le _) ⟨⟨_, Heap.get?_push_size _ rfl, rfl, rfl⟩, hl1.push _⟩ ⟨0, Nat.le_refl 0, setR_new_at (Heap.get?_push_of_some _ new)⟩ ?_
      · have hi : i < ns.length := by rw [← sz]; exact (Array.getElem?_eq_some_iff.mp hv).1
        obtain ⟨t, e⟩ := PyProof.Rows.IntsAre.int_at hit i v (by rw [Array.getElem?_toList]; exact hv)
        exact ⟨ns[i], t, List.getElem?_eq_getElem hi, by rw [e, List.getD_eq_getElem?_getD, List.getElem?_eq_getElem hi]; rfl⟩
      · intro s' c' hm hc' hS'
        obtain ⟨h', g2, d', tk', os'⟩ := s'
        obtain rfl : g2 = s.gens := hm.gens
        obtain rfl : d' = s.drawn := hm.drawn
        obtain rfl : os' = s.os := hm.os
        show wpAny _ _ _ _ _ _
        refine wpAny_pure ?_
        show wpAny _ _ (ret Value.none) _ _ _
        refine wpAny_pure ⟨rfl, h', tk', c', rfl, hS', by rw [← sz]; exact hc', fun b o e => hm.heap b o ?_ (Heap.get?_push_of_some _ (old b o e))⟩
        have lb : b < p := by rw [← hp]; exact Heap.lt_size e
        rw [sz1]
        simp only [List.mem_cons, List.not_mem_nil, or_false, not_or]
        exact ⟨Nat.ne_of_lt lb, Nat.ne_of_lt (Nat.lt_succ_of_lt lb)⟩
    · rcases r₂ with e | f₂
      · exact hr₂
      cases f₂ with
      | next => exact hr₂.elim
      | brk => exact hr₂.elim
      | cont => exact hr₂.elim
      | ret r =>
        obtain ⟨rfl, h', tk, c', rfl, hS', hc', hk'⟩ := hr₂
        repeat (any_goals (first | assumption | wp_step))
        exact h _ _ _ hS' hc' hk'
end
end Z

/-! Z16: sets of ints as values, {e for x in xs if c}, sorted of them. -/
namespace Z
open PySem PySem.Spec PyProof.Rows L2
section
variable {X : Cx}
theorem ints_are : ∀ {ns : List Int} {us : List Value}, Vals (ns.map V.int) us → IntsAre us ns
  | [], _, h => by cases h; exact .nil
  | n :: ns, _, h => by
    cases h with
    | cons a b =>
      obtain ⟨k, rfl⟩ := a
      exact .cons n k (ints_are b)
/-- set(xs), a list of ints -/
def rSetI (w : World) : List V → Hp → VK → Prop := fun xs H Q => ∃ (a : Addr) (ns : List Int), xs = [.ref a] ∧ H a = some (.lst (ns.map V.int)) ∧ ns.length + 1 < scanBound ∧
  ∀ p c, H p = none → c ≤ ns.length → Q (.ref p) (upd H p (SetO w p (fun j => decide (j ∈ ns)) c))
theorem cr_setI (hc : X.calm = true) : CallR X (.type "set") (rSetI X.w) := by
  intro pins s σ H xs us Q I r h
  obtain ⟨a, ns, rfl, ha, hb, q⟩ := h
  rw [Vals.ref1 r]
  obtain ⟨its, rv, pl, hz⟩ := I.list (.inl (.inl ha))
  refine set_ofList ns (I.ok.hd hc) pl.isList (by simpa using ints_are rv) hb fun h' tk c hS hc k => ?_
  exact ⟨.ref _, upd H s.heap.objs.size (SetO X.w s.heap.objs.size _ c), I.laid (t' := tk) k (Nat.le_refl _) (setO_new hS), rfl, q _ c (I.hok.fresh (Nat.le_refl _)) hc⟩
/-- one more in the set -/
theorem add_int {pins : List (Addr × Obj)} {σ : L2.St} {H : Hp} {s : Shared} {E : Value → Shared → Prop} {D : Addr} {S : Int → Bool} {n : Nat} {y : Int} {t : Tok} {Q : Value → Shared → Prop} (I : Inv X pins σ H s) (hD : H D = some (SetO X.w D S n)) (room : n + 1 < scanBound)
    (h : ∀ s', Inv X pins σ (upd H D (SetO X.w D (fun j => S j || decide (j = y)) (if S y = true then n else n + 1))) s' → Q .none s') : wpAny (model X.prog X.w) X.A (call (.builtin "set.add") [.ref D, .int y t]) Q E s :=
  setR_add (setO_get I hD) room fun h' sb new => by
    obtain ⟨o, _, _, _, ho, _⟩ := id new
    exact h _ (I.write (e := D) (t' := s.toks + 1) (by rw [hD]; trivial) (.inl rfl) (fun b u hb hu => (sb.2 b hb).trans hu) ⟨o, ho⟩ (setO_new new))
/-- {elt for target in iter if ..}, elt an int: D the new set -/
def tSci (w : World) (wi : TI) (g : TG) (tt : TT) (te : TE) (vs : List Nat) : TE := fun σ H Q => wi σ H fun J H1 => ∀ D, H1 D = none → ∃ W : Nat → Nat → Hp → Prop, (∃ m, W 0 m (upd H1 D (SetO w D (fun _ => false) 0))) ∧ ∀ i m H, W i m H →
  (J.stop i H ∧ Q (.ref D) H) ∨ (J.go i H ∧ ∃ Nx : Hp → Prop, (∀ H', Nx H' → ∃ m', m' < m ∧ W (i + 1) m' H') ∧ ∀ x H', J.yld i H x H' → g x (wipe σ vs) H' fun σ2 H2 => wipe σ2 vs = wipe σ vs ∧ tt σ2 H2 fun b H3 =>
    if b = true then te σ2 H3 fun y H4 => ∃ (c : Int) (S : Int → Bool) (n : Nat), y = .int c ∧ H4 D = some (SetO w D S n) ∧ n + 1 < scanBound ∧ Nx (upd H4 D (SetO w D (fun j => S j || decide (j = c)) (if S c = true then n else n + 1))) else Nx H3)
theorem pe_sci {elt tg iter : Expr} {ifs : List Expr} {scope : Scope} {own : List (PySem.Str × Nat)} {pos : Pos} {wi : TI} {g : TG} {tt : TT} {te : TE} (hc : X.calm = true) (hN : X.N.Nodup) (hi : PI X tg iter wi) (ok : BlkOk X.N X.env.scope scope own)
    (hg : ∀ (s : Shared) (H : Hp) (C : Addr) (cl : List (PySem.Str × Addr)) (fp : List Addr), PG (X.blk s H scope (compEnvC scope cl C X.env) fp) tg g) (ht : ∀ (s : Shared) (H : Hp) (C : Addr) (cl : List (PySem.Str × Addr)) (fp : List Addr), PTs (X.blk s H scope (compEnvC scope cl C X.env) fp) ifs tt)
    (he : ∀ (s : Shared) (H : Hp) (C : Addr) (cl : List (PySem.Str × Addr)) (fp : List Addr), PE (X.blk s H scope (compEnvC scope cl C X.env) fp) elt te) (hs : ∀ x, foldedSetIterable iter X.env x = pure x := by intro _; rfl) :
    PE X (.SetComp elt [⟨tg, iter, ifs, 0⟩] scope pos) (tSci X.w wi g tt te (own.map (·.2))) := by
  refine ⟨fun pins s σ H Q I h => ?_⟩
  rw [PpSet.eval_SetComp]
  have hfree : ∀ y ∈ scope.names, y.2 = .free → ∃ c, X.env.cells.lookup y.1 = some c := fun y hy e => I.ok.has _ (ok.free y hy e)
  refine wpAny_comprehension_free (use := none) rfl hs (closure_ok hfree) ok.kind (fun y hy e => by rw [ok.uniq y hy, e]) (thn (hi.run pins s σ H _ I h) fun xv s1 hx => thn hx fun itv s2 h2 => ?_)
  obtain ⟨it, fp, tn, J, H2, rfl, I2, T, st2, f2, q⟩ := h2
  refine PpSet.newSet_ok (newEnv_comp ?_)
  generalize hD : s2.heap.objs.size = D
  obtain ⟨W, ⟨m0, w0⟩, turn⟩ := q D (I2.hok.fresh (Nat.le_of_eq hD))
  generalize hs3 : ({ s2 with heap := s2.heap.push (set0 X.w) } : Shared) = s3
  have I3 : Inv X pins σ (upd H2 D (SetO X.w D (fun _ => false) 0)) s3 := by
    rw [← hs3]
    refine I2.laid (t' := s2.toks) (fun b o e => Heap.get?_push_of_some _ e) (Nat.le_of_eq hD) ?_
    rw [← hD]
    exact setO_new (setR_fresh X.w)
  have h3 : s3.heap = s2.heap.push (set0 X.w) := by rw [← hs3]
  have sz : ∀ b ∈ fp, b < s2.heap.objs.size := fun b hb => by
    obtain ⟨o, e, _⟩ := T.obj _ _ st2 b hb
    exact Heap.lt_size e
  have f3 : ∀ b ∈ fp, FpOk X pins (upd H2 D (SetO X.w D (fun _ => false) 0)) b ∧ b < s3.heap.objs.size := fun b hb =>
    ⟨⟨by rw [upd_ne (by rw [← hD]; exact Nat.ne_of_lt (sz b hb))]; exact (f2 b hb).1, (f2 b hb).2⟩, by rw [h3, Heap.size_push]; exact Nat.lt_succ_of_lt (sz b hb)⟩
  have st3 : tn 0 s3.heap := T.keep _ _ _ st2 fun b _ o e => by rw [h3]; exact Heap.get?_push_of_some _ e
  have I4 := block_start I3 ok hN f3
  have pg := hg s3 (upd H2 D (SetO X.w D (fun _ => false) 0)) s3.heap.objs.size (cellsFrom (s3.heap.objs.size + 1) scope.names (cloFrom X.env.cells scope.names [])) fp
  have pt := ht s3 (upd H2 D (SetO X.w D (fun _ => false) 0)) s3.heap.objs.size (cellsFrom (s3.heap.objs.size + 1) scope.names (cloFrom X.env.cells scope.names [])) fp
  have pe := he s3 (upd H2 D (SetO X.w D (fun _ => false) 0)) s3.heap.objs.size (cellsFrom (s3.heap.objs.size + 1) scope.names (cloFrom X.env.cells scope.names [])) fp
  have nfp : ∀ b ∈ fp, (upd H2 D (SetO X.w D (fun _ => false) 0)) b = none := fun b hb => (f3 b hb).1.1
  show codeAny _ _ (.compStart (.SetComp elt [⟨tg, iter, ifs, 0⟩] scope pos) 0 (.ref it) (.ref D) (compEnvC scope (cellsFrom (s3.heap.objs.size + 1) scope.names (cloFrom X.env.cells scope.names [])) s3.heap.objs.size X.env)) _ { s3 with heap := pushCells (s3.heap.push { cls := .type "dict", data := .dict #[] }) scope.names }
  generalize hce : compEnvC scope (cellsFrom (s3.heap.objs.size + 1) scope.names (cloFrom X.env.cells scope.names [])) s3.heap.objs.size X.env = ce at I4 pg pt pe ⊢
  have cL : ce.locals = s3.heap.objs.size := by subst hce; rfl
  generalize hH3 : upd H2 D (SetO X.w D (fun _ => false) 0) = H3 at I3 I4 pg pt pe w0 nfp f3
  generalize hs4 : ({ s3 with heap := pushCells (s3.heap.push { cls := .type "dict", data := .dict #[] }) scope.names } : Shared) = s4 at I4 ⊢
  have st4 : tn 0 s4.heap := T.keep _ _ _ st3 fun b _ o e => by rw [← hs4]; exact pushCells_keeps _ _ _ _ (Heap.get?_push_of_some _ e)
  have pins0 : ∀ {σ' : L2.St} {H' : Hp} {s' : Shared}, Inv (X.blk s3 H3 scope ce fp) [] σ' H' s' → (∀ b ∈ fp, H' b = none) → ∀ b ∈ fp, FpOk (X.blk s3 H3 scope ce fp) [] H' b := fun I' hn b hb =>
    ⟨hn b hb, (I'.ok.exf b hb).1, I'.ok.exfs b hb, .inl hb, fun x c e => (I'.ok.exf b hb).2 x c e, fun p hp => absurd hp (by simp)⟩
  have main : codeAny (model X.prog X.w) X.A (.compLoop (.SetComp elt [⟨tg, iter, ifs, 0⟩] scope pos) 0 (.ref it) (.ref D) ce) (compPost (model X.prog X.w) X.A X.xe none (EP X pins σ Q) (.ref D) s3.heap.objs.size) s4 := by
    refine PpSet.compLoopS_any (fun n s' => ∃ i H', Inv (X.blk s3 H3 scope ce fp) [] (wipe σ (own.map (·.2))) H' s' ∧ tn i s'.heap ∧ (∀ b ∈ fp, H' b = none) ∧ W i n H') ?_ m0 ⟨0, H3, I4, st4, nfp, w0⟩
    rintro n s5 ⟨i, H5, I5, st5, n5, w5⟩
    rcases turn i n H5 w5 with ⟨stop, qq⟩ | ⟨go, Nx, hNx, step⟩
    · refine thnF (T.done (X.blk s3 H3 scope ce fp) rfl rfl rfl hc i [] s5 _ H5 (fun _ _ => False) I5 (pins0 I5 n5) st5 stop) fun r s6 ⟨hr, I6⟩ => ?_
      subst hr
      have I7 : Inv X pins σ H5 s6 := I3.call' (ch := fp) I6.os I6.base I6.hok I6.bare fun b hb => ⟨(f3 b hb).1.2.2.2.1, (f3 b hb).1.2.1, (f3 b hb).1.2.2.2.2.1, (f3 b hb).1.2.2.2.2.2⟩
      have nC : H5 s3.heap.objs.size = none := by rw [← cL]; exact I6.free
      obtain ⟨m, hn, _⟩ := I6.loc
      have hn' : s6.heap.Ns ce.locals m := hn
      rw [cL] at hn'
      refine ⟨m, hn', fun h'' sb => ?_⟩
      obtain ⟨f0, f1, f2, f3, f4, f5⟩ := I3.fpOk (Nat.le_refl _) nC
      exact ⟨.ref D, H5, I7.turned (t' := s6.toks) (fun b o hb e => (sb.2 b hb).trans e) f0 f1 f3 f4 f5, rfl, qq⟩
    · refine thnF (T.item (X.blk s3 H3 scope ce fp) rfl rfl rfl hc i [] s5 _ H5 (fun _ _ => False) I5 (pins0 I5 n5) st5 go) fun r s6 ⟨u, hr, h6⟩ => ?_
      subst hr
      refine thnF h6 fun _ s7 ⟨x, H7, I7, r7, y7, st7, n7⟩ => ?_
      refine thnF (pg.run _ s7 _ H7 x u _ (I7.pinned (pins0 I7 n7) (T.obj _ _ st7)) r7 (step x H7 y7)) fun _ s8 ⟨σ8, H8, I8, hw8, q8⟩ => ?_
      refine thnF (pt.run _ s8 σ8 H8 _ I8 q8) fun b s9 ⟨H9, I9, q9⟩ => ?_
      have next : ∀ {s' : Shared} {H' : Hp}, Inv (X.blk s3 H3 scope ce fp) ([] ++ pinsAt fp s7.heap) σ8 H' s' → Nx H' → ∃ m, m < n ∧ ∃ i H', Inv (X.blk s3 H3 scope ce fp) [] (wipe σ (own.map (·.2))) H' s' ∧ tn i s'.heap ∧ (∀ b ∈ fp, H' b = none) ∧ W i m H' := fun {s' H'} I' nx => by
        obtain ⟨m', hm, w'⟩ := hNx H' nx
        have kept : ∀ b ∈ fp, ∀ o, s7.heap.get? b = some o → s'.heap.get? b = some o ∧ H' b = none := fun b hb o e =>
          let z := I'.pin (b, o) (List.mem_append_right _ (List.mem_append_right _ (mem_pinsAt hb e)))
          ⟨z.1, z.2.1⟩
        refine ⟨m', hm, i + 1, H', (I'.unpinned (pins := [])).weak (by rw [← hw8, wipe_length]) (fun j v e => ?_), T.keep _ _ _ st7 fun b hb o e => (kept b hb o e).1, fun b hb => ?_, w'⟩
        · rw [← hw8] at e
          exact (wipe_some e).1
        · obtain ⟨o, e, _⟩ := T.obj _ _ st7 b hb
          exact (kept b hb o e).2
      cases b with
      | false =>
        simp only [Bool.false_eq_true, if_false] at q9 ⊢
        exact next I9 q9
      | true =>
        simp only [if_true] at q9 ⊢
        refine thnF (pe.run _ s9 σ8 H9 _ I9 q9) fun z s10 ⟨yv, H10, I10, r10, k, S0, n0, ey, hD10, hz10, nx⟩ => ?_
        subst ey
        obtain ⟨tk, rfl⟩ := r10
        exact add_int (X := X.blk s3 H3 scope ce fp) I10 hD10 hz10 fun s11 I11 => next I11 nx
  exact PpSet.codeAny_compStart_set main (T.self X.A 0 _ _ _ st4 main)
end
end Z

/-! Z17: sorted(set(xs)), sorted({e for x in xs if c}), whole numbers. -/
namespace Z
open PySem PySem.Spec PyProof.Rows L2
section
variable {X : Cx} {tg it elt e : Expr} {ifs : List Expr} {scope : Scope} {Γ : GS} {M : MS} {D : ZD} {pos pos2 p p2 : Pos} {Φ : W → MS → Prop}
theorem out_new {F H : Hp} {ι : List Addr} {M : MS} {L : Addr} {o : HO} (R : Rep F H ι M) (n : H L = none) : Ext F ι H F ι (upd H L o) ∧ Rep F (upd H L o) ι M ∧ F L = none ∧ L ∉ ι := by
  have nF : F L = none := R.sub.free n
  have nι : L ∉ ι := fun z => by
    obtain ⟨o', e⟩ := R.tr L z
    rw [n] at e; cases e
  exact ⟨⟨Same.refl F, ⟨[], by simp⟩, fun a x e _ => by rw [upd_ne (ne_of_none e n)]; exact e, fun a h k => absurd h k, fun a x e k => (by rw [k] at e; cases e), fun a od u e => by rw [upd_ne (ne_of_none e n)]; exact e⟩, out_put R nF nι, nF, nι⟩
/-- the same ints, rising -/
def RiseW (ns : List Int) (Ψ : List Int → Prop) : Prop := ∀ ks : List Int, ks.Pairwise (· < ·) → (∀ k, k ∈ ks ↔ k ∈ ns) → Ψ ks
theorem sorted_end {F H : Hp} {ι : List Addr} {Q : VK} {D : Addr} {ns : List Int} {c : Nat} (R : Rep F H ι M) (hD : H D = some (SetO X.w D (fun j => decide (j ∈ ns)) c)) (hc : c < 64)
    (φ : RiseW ns fun ks => Φ (.d (.list (ks.map .int))) M) (hQ : ∀ z H', Post F ι H Φ z H' → Q z H') : rSortedSet X.w [.ref D] H Q :=
  ⟨D, _, c, rfl, hD, hc, fun ks q pw hm hl n => lay_lst R .of_ints (φ ks pw fun k => by rw [hm k]; simp) hQ q n⟩
theorem zk_sortedSet (bs : X.mg "sorted" = none) (bt : X.mg "set" = none) (hc : X.calm = true) (h : ZE X e Γ M fun y M1 => ∃ ns : List Int, y = .d (.list (ns.map .int)) ∧ ns.length < 64 ∧ RiseW ns fun ks => Φ (.d (.list (ks.map .int))) M1)
    (hg : Gl X "sorted" := by rfl) (hg2 : Gl X "set" := by rfl) (sy : CSyn X (.Call (.Name "set" p2) [e] [] pos2) [] pos := by exact ⟨by rfl, by rfl⟩) (sy2 : CSyn X e [] pos2 := by exact ⟨by rfl, by rfl⟩) :
    ZE X (.Call (.Name "sorted" p) [.Call (.Name "set" p2) [e] [] pos2] [] pos) Γ M Φ := fun F ι σ H R S => by
  refine w_e (pe_callB (cr_sortedSet hc) hg bs bt_sorted (pa_cons (pe_callTy (cr_setI hc) hg2 bt bt_set (pa_cons pe_w pa_nil sy2.star) (he := sy2.star) (hpl := sy2.plain)) pa_nil sy.star) (he := sy.star) (hpl := sy.plain)) ?_
  refine (h F ι σ H R S).mono ?_
  rintro v H1 ⟨F1, ι1, M1, y, E1, R1, rv, ns, rfl, hl, φ⟩
  obtain ⟨c, vs, rfl, f, r⟩ := At.lst_ rv
  rw [r.ints] at f
  refine ⟨c, ns, rfl, R1.sub _ _ f, by unfold scanBound; omega, fun q k n hk => ?_⟩
  obtain ⟨E2, R2, nF, nι⟩ := out_new (o := SetO X.w q (fun j => decide (j ∈ ns)) k) R1 n
  exact sorted_end R2 upd_same (Nat.lt_of_le_of_lt hk hl) φ fun z H' p => Post.ext (E1.trans E2) p
theorem sc_read {vs : List Nat} {F : Hp} {ι : List Addr} {σ : St} {H : Hp} {Φl : List W → MS → Prop} {Q : VK} (S : Slots F ι σ Γ) (R : Rep F H ι M)
    (h : ZI X tg it Γ M fun ds M1 => ∃ I, LcT X vs tg elt ifs scope ds Γ M1 I Φl ∧ ∀ i acc M2, I i acc M2 → ∃ ks : List Int, acc = ks.map (fun k => .d (.int k)) ∧ ks.length < 64)
    (fin : ∀ L H' F' ι' M' (ks : List Int) c, Ext F ι H F' ι' H' → Rep F' H' ι' M' → H' L = some (SetO X.w L (fun j => decide (j ∈ ks)) c) → c ≤ ks.length → ks.length < 64 → Φl (ks.map fun k => .d (.int k)) M' → Q (.ref L) H') :
    tSci X.w (wI X tg it) (bG X scope tg) (bTs X scope ifs) (bE X scope elt) vs σ H Q := by
  refine (h F ι σ H R S).mono ?_
  rintro J H1 ⟨F1, ι1, M1, ds, E1, R1, yd, I, T, hin⟩ L nL
  obtain ⟨_, R1', nF1, nι1⟩ := out_new (o := SetO X.w L (fun _ => false) 0) R1 nL
  have nι : L ∉ ι := fun z => by
    obtain ⟨r, rfl⟩ := E1.pre
    exact nι1 (List.mem_append_left r z)
  have nH : H L = none := by
    cases e : H L with
    | none => rfl
    | some o => rw [E1.kp L o e nι] at nL; cases nL
  let W : Nat → Hp → Prop := fun i H' => i ≤ ds.length ∧ ∃ F' ι' M', ∃ ks : List Int, ∃ c, Ext F ι H F' ι' H' ∧ Kp F1 H1 F' H' ∧ Rep F' H' ι' M' ∧ H' L = some (SetO X.w L (fun j => decide (j ∈ ks)) c) ∧ c ≤ ks.length ∧ F' L = none ∧ L ∉ ι' ∧ I i (ks.map fun k => .d (.int k)) M'
  have put : ∀ {F' ι' H' o}, Ext F ι H F' ι' H' → Ext F ι H F' ι' (upd H' L o) := fun E => ⟨E.same, E.pre, fun a x e m => by
    rw [upd_ne (ne_of_none e nH)]; exact E.kp a x e m, E.fr, E.nw, fun a od u e => by rw [upd_ne (ne_of_none e nH)]; exact E.fz a od u e⟩
  refine ⟨fun i m H' => m = ds.length - i ∧ W i H', ⟨ds.length, rfl, Nat.zero_le _, F1, ι1, M1, [], 0, put E1, Kp.refl.put nL, R1', by rw [upd_same]; rfl, Nat.zero_le _, nF1, nι1, T.zero⟩, ?_⟩
  rintro i m H' ⟨rfl, hi, F2, ι2, M2, ks, c, E2, s2, R2, hL, hc, nF2, nι2, hI⟩
  have y := yd F2 H' s2 R2.sub i
  have short : ks.length < 64 := by
    obtain ⟨ks', e, hl⟩ := hin i _ M2 hI
    have := congrArg List.length e
    simp only [List.length_map] at this
    omega
  by_cases hlt : i < ds.length
  · obtain ⟨go, st⟩ := y.1 _ (List.getElem?_eq_getElem hlt)
    refine .inr ⟨go, W (i + 1), fun H3 w3 => ⟨ds.length - (i + 1), by omega, rfl, w3⟩, fun x H3 hy B => ?_⟩
    obtain ⟨F3, g, ax⟩ := st x H3 hy
    obtain ⟨E3, R3⟩ := R2.grow g
    have tn := T.turn i _ _ M2 (List.getElem?_eq_getElem hlt) hI
    refine wG.mono (tn B F3 ι2 _ H3 x R3 ((E3.slots (E2.slots S)).wipe vs) ax) ?_
    rintro σ4 H4 ⟨hw, F4, ι4, M4, Γ4, E4, R4, S4, h4⟩
    rw [wipe_wipe] at hw
    obtain ⟨hL3, nF3, nι3⟩ := out_kept E3 hL nF2 nι2
    obtain ⟨hL4, nF4, nι4⟩ := out_kept E4 hL3 nF3 nι3
    refine ⟨hw, fun B => wTs.mono (h4 B F4 ι4 σ4 H4 R4 S4) ?_⟩
    rintro b H5 ⟨F5, ι5, M5, E5, R5, h5⟩
    obtain ⟨hL5, nF5, nι5⟩ := out_kept E5 hL4 nF4 nι4
    have E25 := (((E2.trans E3).trans E4).trans E5)
    have s5 : Kp F1 H1 F5 H5 := ((s2.step E3).step E4).step E5
    cases b with
    | false =>
      rw [if_neg Bool.false_ne_true] at h5 ⊢
      exact ⟨hlt, F5, ι5, M5, ks, c, E25, s5, R5, hL5, hc, nF5, nι5, h5⟩
    | true =>
      rw [if_pos rfl] at h5 ⊢
      refine fun B => wE.mono (h5 B F5 ι5 σ4 H5 R5 (E5.slots S4)) ?_
      rintro z H6 ⟨F6, ι6, M6, zw, E6, R6, rz, hz, h6⟩
      obtain ⟨hL6, nF6, nι6⟩ := out_kept E6 hL5 nF5 nι5
      obtain ⟨ks', e, hl⟩ := hin _ _ _ h6
      obtain ⟨k, rfl⟩ : ∃ k : Int, zw = .d (.int k) := by
        have q : zw ∈ ks'.map (fun k : Int => Z.W.d (.int k)) := by rw [← e]; simp
        obtain ⟨k, _, q⟩ := List.mem_map.mp q
        exact ⟨k, q.symm⟩
      obtain rfl := At.int_ rz
      refine ⟨k, _, c, rfl, hL6, by unfold scanBound; omega, hlt, F6, ι6, M6, ks ++ [k], (if decide (k ∈ ks) = true then c else c + 1), put (E25.trans E6), (s5.step E6).put nL, out_put R6 nF6 nι6, ?_, ?_, nF6, nι6, by rw [List.map_append]; exact h6⟩
      · rw [upd_same]
        congr 2
        funext j
        simp [List.mem_append]
      · rw [List.length_append]
        split <;> simp <;> omega
  · have e : i = ds.length := by omega
    subst e
    exact .inl ⟨y.2 (Nat.le_refl _), fin L H' F2 ι2 M2 ks c E2 R2 hL hc short (T.done _ M2 hI)⟩
theorem zk_sortedSc {own : List (Str × Nat)} (bs : X.mg "sorted" = none) (hc : X.calm = true) (hN : X.N.Nodup) (ok : BlkOk X.N X.env.scope scope own)
    (h : ZI X tg it Γ M fun ds M1 => ∃ I, LcT X (own.map (·.2)) tg elt ifs scope ds Γ M1 I (fun acc M2 => ∀ ks : List Int, acc = ks.map (fun k => .d (.int k)) → RiseW ks fun ks' => Φ (.d (.list (ks'.map .int))) M2) ∧
      ∀ i acc M2, I i acc M2 → ∃ ks : List Int, acc = ks.map (fun k => .d (.int k)) ∧ ks.length < 64) (hs : ∀ x, foldedSetIterable it X.env x = pure x := by intro _; rfl)
    (hg : Gl X "sorted" := by rfl) (sy : CSyn X (.SetComp elt [⟨tg, it, ifs, 0⟩] scope pos2) [] pos := by exact ⟨by rfl, by rfl⟩) :
    ZE X (.Call (.Name "sorted" p) [.SetComp elt [⟨tg, it, ifs, 0⟩] scope pos2] [] pos) Γ M Φ := fun F ι σ H R S => by
  refine w_e (pe_callB (cr_sortedSet hc) hg bs bt_sorted (pa_cons (pe_sci hc hN pi_w ok pg_b pts_b pe_b hs) pa_nil sy.star) (he := sy.star) (hpl := sy.plain)) ?_
  show tSci X.w _ _ _ _ _ σ H (fun x H1 => rSortedSet X.w [x] H1 (Post F ι H Φ))
  refine sc_read S R h ?_
  intro L H' F' ι' M' ks c E R' hL hc' hk φ
  exact sorted_end R' hL (by omega) (φ ks rfl) fun z H' p => Post.ext E p
theorem ScT.pure {α : Type} {vs : List Nat} (xs : List α) (enc : α → PyData) (g : α → Option Int) {Φ : List W → MS → Prop} (hl : xs.length < 64)
    (turn : ∀ x ∈ xs, ∀ B, ZGB (bk X scope B) vs tg (.d (enc x)) (wipeG Γ vs) M fun Γ2 M2 => ∀ B, ZTs (bk X scope B) ifs Γ2 M2 fun b M3 => if b = true then ∀ B, ZE (bk X scope B) elt Γ2 M3 fun y M4 => (∃ z, y = .d (.int z) ∧ g x = some z) ∧ M4 = M else g x = none ∧ M3 = M)
    (done : Φ ((xs.filterMap g).map fun k => .d (.int k)) M) : ∃ I, LcT X vs tg elt ifs scope (xs.map enc) Γ M I Φ ∧ ∀ i acc M2, I i acc M2 → ∃ ks : List Int, acc = ks.map (fun k => .d (.int k)) ∧ ks.length < 64 := by
  refine ⟨fun i acc M1 => M1 = M ∧ acc = ((xs.take i).filterMap g).map fun k => .d (.int k), ⟨⟨rfl, rfl⟩, fun i d acc M1 hd ⟨e1, e2⟩ B => ?_, fun acc M1 ⟨e1, e2⟩ => ?_⟩, fun i acc M2 ⟨_, e⟩ => ⟨_, e, ?_⟩⟩
  · subst e1 e2
    rw [List.getElem?_map] at hd
    cases hx : xs[i]? with
    | none => rw [hx] at hd; cases hd
    | some x =>
      rw [hx] at hd
      cases hd
      have hm : x ∈ xs := List.mem_of_getElem? hx
      have tk : xs.take (i + 1) = xs.take i ++ [x] := by rw [List.take_add_one, hx]; rfl
      intro F ι σ H v R S r
      refine wG.mono (turn x hm B F ι σ H v R S r) ?_
      rintro σ' H' ⟨hw, F1, ι1, M2, Γ2, E1, R1, S1, h⟩
      refine ⟨hw, F1, ι1, M2, Γ2, E1, R1, S1, fun B F ι σ H R S => wTs.mono (h B F ι σ H R S) ?_⟩
      rintro b H2 ⟨F2, ι2, M3, E2, R2, h2⟩
      refine ⟨F2, ι2, M3, E2, R2, ?_⟩
      cases b with
      | false =>
        rw [if_neg Bool.false_ne_true] at h2 ⊢
        refine ⟨h2.2, ?_⟩
        rw [tk, List.filterMap_append, show [x].filterMap g = [] by simp [h2.1], List.append_nil]
      | true =>
        rw [if_pos rfl] at h2 ⊢
        refine fun B => (h2 B).mono ?_
        rintro y M4 ⟨⟨z, rfl, hg⟩, rfl⟩
        refine ⟨?_, rfl, ?_⟩
        · rw [List.length_map]
          have h1 := List.length_filterMap_le g (xs.take i)
          rw [List.length_take] at h1
          show _ < 2 ^ 24
          omega
        · rw [tk, List.filterMap_append, show [x].filterMap g = [z] by simp [hg], List.map_append]
          rfl
  · subst e1 e2
    rw [List.length_map, List.take_length]
    exact done
  · have h1 := List.length_filterMap_le g (xs.take i)
    rw [List.length_take] at h1
    omega
end
end Z

/-! Z18: dict(zip(xs, ys)), xs a list and ys a tuple of one length. -/
namespace Z
open PySem PySem.Spec PyProof.Rows L2
section
variable {P : Program} {w : World} {A : Around} {E : Value → Shared → Prop} {s : Shared}
/-- the two walks of the zip: a list's at i1, a tuple's at i2, both at place k -/
structure Two (h : Heap) (TI i1 i2 l1 l2 : Addr) (xs ys : Array Value) (k : Nat) : Prop where
  ti : IsPair h TI (.ref i1) (.ref i2)
  w1 : h.IsListIter i1 l1 k
  w2 : h.IsTupleIter i2 l2 k
  s1 : h.IsList l1 xs
  s2 : h.IsTuple l2 ys
/-- the zip's own object: fresh, or its last tuple still held -/
def ZipSt (h : Heap) (z TI TO i1 i2 d : Addr) : Prop := (IsZip h z TI TO .none ∧ ∃ a b, IsPair h TO a b) ∨ ∃ T f oT, IsZipHeld h z TI TO T f ∧ h.get? T = some oT ∧ T ≠ z ∧ T ≠ i1 ∧ T ≠ i2 ∧ T ≠ d
variable {z TI TO i1 i2 l1 l2 d : Addr} {xs ys : Array Value} {k : Nat} {x y : Value}
theorem zip_step {Q : Value → Shared → Prop} (D : ZipApart z TI TO i1 i2 l1 l2) (hd : d < s.heap.objs.size) (hz : ZipSt s.heap z TI TO i1 i2 d) (t : Two s.heap TI i1 i2 l1 l2 xs ys k) (hx : xs[k]? = some x) (hy : ys[k]? = some y)
    (hQ : ∀ h', ZipSt h' z TI TO i1 i2 d → Two h' TI i1 i2 l1 l2 xs ys (k + 1) → IsPair h' s.heap.objs.size x y → (∀ c o, c ∉ [z, TO, i1, i2] → s.heap.get? c = some o → h'.get? c = some o) → Q (.ref s.heap.objs.size) { s with heap := h' }) :
    wpAny (model P w) A (Builtin.«zip.__next__» ⟨[.ref z], []⟩) (fun fin s' => ∃ v, fin = .done (.ret v) ∧ Q v s') E s := by
  obtain ⟨hTI, h1, h2, hl1, hl2⟩ := t
  have nm : ∀ {c : Addr}, c ∉ [z, TO, i1, i2] → c ≠ z ∧ c ≠ TO ∧ c ≠ i1 ∧ c ≠ i2 := fun h => by simpa using h
  show wpAny _ _ (field (.ref z) 2 >>= _) _ _ _
  rcases hz with ⟨hz, a, b, hTO⟩ | ⟨T, f, oT, hz, hT, r1, r2, r3, r4⟩
  · refine wpAny_bind (wpAny_field hz rfl (x := .bool false) rfl ?_)
    show wpAny _ _ (field (.ref z) 3 >>= _) _ _ _
    refine wpAny_bind (wpAny_field hz rfl (x := .ref TI) rfl ?_)
    refine wpAny_bind (wpAny_seqItems hTI rfl ?_)
    show wpAny _ _ (Builtin.SmallTypes.ownedTupleIsFree (.ref z) >>= _) _ _ _
    refine wpAny_bind ?_
    unfold Builtin.SmallTypes.ownedTupleIsFree
    refine wpAny_bind (wpAny_field hz rfl (x := .none) rfl (wpAny_pure ?_))
    simp only [if_true]
    refine wpAny_bind (wpAny_rule ?_)
    refine wpAny_bind (wpAny_field hz rfl (x := .ref TO) rfl ?_)
    refine wpAny_bind (wpAny_setField_rec hz (by simp) fun h₁ hz₁ e1 => ?_)
    replace hz₁ : IsZip h₁ z TI TO .ellipsis := hz₁
    refine wpAny_bind ?_
    simp only [List.zipIdx_cons, List.zipIdx_nil, List.forIn_cons, List.forIn_nil]
    refine wpAny_bind (wpAny_bind (wpAny_onRaise ?_))
    show wpAny _ _ (Builtin.SmallTypes.nextOf (.ref i1) >>= _) _ _ _
    refine wpAny_bind (wpAny_nextOf_list_item (h1.extBut e1.extBut D.i1z) (hl1.extBut e1.extBut D.l1z) hx fun h₂ k1 e2 => wpAny_pure ?_)
    have o2 : IsPair h₂ TO a b := e2.extBut _ _ D.TOi1 (e1.extBut _ _ D.TOz hTO)
    refine wpAny_bind (wpAny_seqItems o2 rfl ?_)
    refine wpAny_bind (wpAny_updateSeq_pair o2 fun h₃ o3 e3 => ?_)
    replace o3 : IsPair h₃ TO x b := o3
    refine wpAny_bind (wpAny_letGo (wpAny_pure ?_))
    refine wpAny_bind (wpAny_bind (wpAny_onRaise ?_))
    show wpAny _ _ (Builtin.SmallTypes.nextOf (.ref i2) >>= _) _ _ _
    have up3 : ∀ c o, c ≠ z → c ≠ i1 → c ≠ TO → s.heap.get? c = some o → h₃.get? c = some o := fun c o c1 c2 c3 e => e3.extBut _ _ c3 (e2.extBut _ _ c2 (e1.extBut _ _ c1 e))
    refine wpAny_bind (RZ.nextOf_tuple_item (h2.at fun o e => up3 _ o D.i2z D.i12.symm D.TOi2.symm e) (hl2.at fun o e => up3 _ o D.l2z D.l2i1 D.l2TO e) hy fun h₄ k2 e4 => wpAny_pure ?_)
    have o4 : IsPair h₄ TO x b := e4.extBut _ _ D.TOi2 o3
    refine wpAny_bind (wpAny_seqItems o4 rfl ?_)
    refine wpAny_bind (wpAny_updateSeq_pair o4 fun h₅ o5 e5 => ?_)
    replace o5 : IsPair h₅ TO x y := o5
    refine wpAny_bind (wpAny_letGo (wpAny_pure (wpAny_pure ?_)))
    refine wpAny_bind (wpAny_seqItems o5 rfl ?_)
    refine wpAny_bind (wpAny_newTuple ?_)
    have sz5 : h₅.objs.size = s.heap.objs.size := by rw [e5.1, e4.1, e3.1, e2.1, e1.1]
    have z5 : IsZip h₅ z TI TO .ellipsis := e5.extBut _ _ D.TOz.symm (e4.extBut _ _ D.i2z.symm (e3.extBut _ _ D.TOz.symm (e2.extBut _ _ D.i1z.symm hz₁)))
    have lt : ∀ {c o}, h₅.get? c = some o → h₅.objs.size ≠ c := fun e => Nat.ne_of_gt (Heap.lt_size e)
    have up5 : ∀ c o, c ≠ z → c ≠ TO → c ≠ i1 → c ≠ i2 → s.heap.get? c = some o → h₅.get? c = some o := fun c o c1 c2 c3 c4 e => e5.extBut _ _ c2 (e4.extBut _ _ c4 (up3 c o c1 c3 c2 e))
    have k1' : h₅.IsListIter i1 l1 (k + 1) := ((k1.extBut e3.extBut D.TOi1.symm).extBut e4.extBut D.i12).extBut e5.extBut D.TOi1.symm
    have k2' : h₅.IsTupleIter i2 l2 (k + 1) := k2.at fun o e => e5.extBut _ _ D.TOi2.symm e
    have n1 : h₅.objs.size ≠ i1 := let ⟨_, e, _⟩ := k1'; lt e
    have n2 : h₅.objs.size ≠ i2 := let ⟨_, e, _⟩ := k2'; lt e
    show wpAny _ _ (Builtin.SmallTypes.ownedTupleHandOut (.ref z) (.ref h₅.objs.size) >>= _) _ _ _
    refine wpAny_bind ?_
    unfold Builtin.SmallTypes.ownedTupleHandOut
    have z6 : IsZip (h₅.push { cls := .type "tuple", data := .seq #[x, y] }) z TI TO .ellipsis := Heap.get?_push_of_some _ z5
    refine wpAny_bind (wpAny_setField_rec z6 (by simp) fun h₇ z7 e7 => ?_)
    replace z7 : IsZip h₇ z TI TO (rawInt h₅.objs.size) := z7
    refine wpAny_setField_rec z7 (by simp) fun h₈ z8 e8 => ?_
    replace z8 : IsZip h₈ z TI TO (rawInt h₅.objs.size) := z8
    have up : ∀ c o, c ≠ z → h₅.get? c = some o → h₈.get? c = some o := fun c o c1 e => e8.extBut _ _ c1 (e7.extBut _ _ c1 (Heap.get?_push_of_some _ e))
    have p8 : IsPair h₈ h₅.objs.size x y := e8.extBut _ _ (lt z5) (e7.extBut _ _ (lt z5) (Heap.get?_push_size _ rfl))
    have hd5 : h₅.objs.size ≠ d := by rw [sz5]; exact Nat.ne_of_gt hd
    refine wpAny_pure ⟨_, rfl, ?_⟩
    show Q (.ref h₅.objs.size) _
    have fin := hQ h₈ (.inr ⟨h₅.objs.size, false, _, z8, p8, lt z5, n1, n2, hd5⟩)
      ⟨up _ _ D.TIz (up5 _ _ D.TIz D.TITO D.TIi1 D.TIi2 hTI), k1'.at fun o e => up _ o D.i1z e, k2'.at fun o e => up _ o D.i2z e, hl1.at fun o e => up _ o D.l1z (up5 _ o D.l1z D.l1TO D.l1i1 D.l1i2 e), hl2.at fun o e => up _ o D.l2z (up5 _ o D.l2z D.l2TO D.l2i1 D.l2i2 e)⟩
      (by rw [← sz5]; exact p8) (fun c o hc e => let ⟨c1, c2, c3, c4⟩ := nm hc; up c o c1 (up5 c o c1 c2 c3 c4 e))
    rw [← sz5] at fin
    exact fin
  · refine wpAny_bind (wpAny_field hz rfl (x := .bool false) rfl ?_)
    show wpAny _ _ (field (.ref z) 3 >>= _) _ _ _
    refine wpAny_bind (wpAny_field hz rfl (x := .ref TI) rfl ?_)
    refine wpAny_bind (wpAny_seqItems hTI rfl ?_)
    show wpAny _ _ (Builtin.SmallTypes.ownedTupleIsFree (.ref z) >>= _) _ _ _
    refine wpAny_bind (wpAny_tupleHeld_zip hz hT fun h₁ z1 e1 => ?_)
    simp only [Bool.false_eq_true, if_false]
    refine wpAny_bind ?_
    rw [← Array.forIn_toList]
    simp only [List.forIn_cons, List.forIn_nil]
    refine wpAny_bind (wpAny_bind (wpAny_holding ?_))
    show wpAny _ _ (Builtin.SmallTypes.nextOf (.ref i1) >>= _) _ _ _
    refine wpAny_bind (wpAny_nextOf_list_item (s := { s with heap := h₁ }) (h1.extBut e1.extBut D.i1z) (hl1.extBut e1.extBut D.l1z) hx fun h₂ k1 e2 => wpAny_pure ?_)
    refine wpAny_pure ?_
    refine wpAny_bind (wpAny_bind (wpAny_holding ?_))
    show wpAny _ _ (Builtin.SmallTypes.nextOf (.ref i2) >>= _) _ _ _
    have up2 : ∀ c o, c ≠ z → c ≠ i1 → s.heap.get? c = some o → h₂.get? c = some o := fun c o c1 c2 e => e2.extBut _ _ c2 (e1.extBut _ _ c1 e)
    refine wpAny_bind (RZ.nextOf_tuple_item (s := { s with heap := h₂ }) (h2.at fun o e => up2 _ o D.i2z D.i12.symm e) (hl2.at fun o e => up2 _ o D.l2z D.l2i1 e) hy fun h₃ k2 e3 => wpAny_pure ?_)
    refine wpAny_pure (wpAny_pure ?_)
    show wpAny _ _ (newTuple [x, y] >>= _) _ _ _
    refine wpAny_bind (wpAny_newTuple ?_)
    have sz3 : h₃.objs.size = s.heap.objs.size := by rw [e3.1, e2.1, e1.1]
    have z3 : IsZipHeld h₃ z TI TO T true := e3.extBut _ _ D.i2z.symm (e2.extBut _ _ D.i1z.symm z1)
    have up3 : ∀ c o, c ≠ z → c ≠ i1 → c ≠ i2 → s.heap.get? c = some o → h₃.get? c = some o := fun c o c1 c2 c3 e => e3.extBut _ _ c3 (up2 c o c1 c2 e)
    have k1' : h₃.IsListIter i1 l1 (k + 1) := k1.extBut e3.extBut D.i12
    have k2' : h₃.IsTupleIter i2 l2 (k + 1) := k2
    refine wpAny_pure ⟨_, rfl, ?_⟩
    show Q (.ref h₃.objs.size) _
    have fin := hQ (h₃.push { cls := .type "tuple", data := .seq #[x, y] }) (.inr ⟨T, true, oT, Heap.get?_push_of_some _ z3, Heap.get?_push_of_some _ (up3 _ _ r1 r2 r3 hT), r1, r2, r3, r4⟩)
      ⟨Heap.get?_push_of_some _ (up3 _ _ D.TIz D.TIi1 D.TIi2 hTI), k1'.at fun o e => Heap.get?_push_of_some _ e, k2'.at fun o e => Heap.get?_push_of_some _ e, hl1.at fun o e => Heap.get?_push_of_some _ (up3 _ o D.l1z D.l1i1 D.l1i2 e), hl2.at fun o e => Heap.get?_push_of_some _ (up3 _ o D.l2z D.l2i1 D.l2i2 e)⟩
      (by rw [← sz3]; exact Heap.get?_push_size _ rfl) (fun c o hc e => let ⟨c1, c2, c3, c4⟩ := nm hc; Heap.get?_push_of_some _ (up3 c o c1 c3 c4 e))
    rw [← sz3] at fin
    exact fin
/-- the list is at its end -/
theorem zip_stop {Q : PySem.Fin → Shared → Prop} (hh : A.handled = none) (D : ZipApart z TI TO i1 i2 l1 l2) (hz : ZipSt s.heap z TI TO i1 i2 d) (t : Two s.heap TI i1 i2 l1 l2 xs ys k) (hx : xs[k]? = none)
    (hE : ∀ h' e, (∀ c o, c ∉ [z, TO, i1, i2] → s.heap.get? c = some o → h'.get? c = some o) → (∃ o, h'.get? e = some o ∧ o.cls = .type "StopIteration") → E (.ref e) { s with heap := h' }) :
    wpAny (model P w) A (Builtin.«zip.__next__» ⟨[.ref z], []⟩) Q E s := by
  obtain ⟨hTI, h1, h2, hl1, hl2⟩ := t
  have nm : ∀ {c : Addr}, c ∉ [z, TO, i1, i2] → c ≠ z ∧ c ≠ TO ∧ c ≠ i1 ∧ c ≠ i2 := fun h => by simpa using h
  show wpAny _ _ (field (.ref z) 2 >>= _) _ _ _
  rcases hz with ⟨hz, a, b, hTO⟩ | ⟨T, f, oT, hz, hT, r1, r2, r3, r4⟩
  · refine wpAny_bind (wpAny_field hz rfl (x := .bool false) rfl ?_)
    show wpAny _ _ (field (.ref z) 3 >>= _) _ _ _
    refine wpAny_bind (wpAny_field hz rfl (x := .ref TI) rfl ?_)
    refine wpAny_bind (wpAny_seqItems hTI rfl ?_)
    show wpAny _ _ (Builtin.SmallTypes.ownedTupleIsFree (.ref z) >>= _) _ _ _
    refine wpAny_bind ?_
    unfold Builtin.SmallTypes.ownedTupleIsFree
    refine wpAny_bind (wpAny_field hz rfl (x := .none) rfl (wpAny_pure ?_))
    simp only [if_true]
    refine wpAny_bind (wpAny_rule ?_)
    refine wpAny_bind (wpAny_field hz rfl (x := .ref TO) rfl ?_)
    refine wpAny_bind (wpAny_setField_rec hz (by simp) fun h₁ hz₁ e1 => ?_)
    replace hz₁ : IsZip h₁ z TI TO .ellipsis := hz₁
    refine wpAny_bind ?_
    simp only [List.zipIdx_cons, List.zipIdx_nil, List.forIn_cons, List.forIn_nil]
    refine wpAny_bind (wpAny_bind (wpAny_onRaise ?_))
    show wpAny _ _ (Builtin.SmallTypes.nextOf (.ref i1) >>= _) _ _ _
    refine wpAny_bind (wpAny_nextOf_list_end hh (h1.extBut e1.extBut D.i1z) (hl1.extBut e1.extBut D.l1z) hx fun h₂ e e2 he => ?_)
    obtain ⟨oe, hoe, hce⟩ := he
    have z2 : IsZip h₂ z TI TO .ellipsis := e2 _ _ D.i1z.symm hz₁
    have hez : e ≠ z := fun q => by subst q; rw [z2] at hoe; cases hoe; simp at hce
    exact wpAny_setField_rec z2 (by simp) fun h₃ _ e3 => hE h₃ e (fun c o hc q => let ⟨c1, c2, c3, c4⟩ := nm hc; e3.extBut _ _ c1 (e2 _ _ c3 (e1.extBut _ _ c1 q))) ⟨oe, e3.extBut _ _ hez hoe, hce⟩
  · refine wpAny_bind (wpAny_field hz rfl (x := .bool false) rfl ?_)
    show wpAny _ _ (field (.ref z) 3 >>= _) _ _ _
    refine wpAny_bind (wpAny_field hz rfl (x := .ref TI) rfl ?_)
    refine wpAny_bind (wpAny_seqItems hTI rfl ?_)
    show wpAny _ _ (Builtin.SmallTypes.ownedTupleIsFree (.ref z) >>= _) _ _ _
    refine wpAny_bind (wpAny_tupleHeld_zip hz hT fun h₁ z1 e1 => ?_)
    simp only [Bool.false_eq_true, if_false]
    refine wpAny_bind ?_
    rw [← Array.forIn_toList]
    simp only [List.forIn_cons, List.forIn_nil]
    refine wpAny_bind (wpAny_bind (wpAny_holding ?_))
    show wpAny _ _ (Builtin.SmallTypes.nextOf (.ref i1) >>= _) _ _ _
    refine wpAny_bind (wpAny_nextOf_list_end (s := { s with heap := h₁ }) hh (h1.extBut e1.extBut D.i1z) (hl1.extBut e1.extBut D.l1z) hx fun h₂ e e2 he => ?_)
    exact hE h₂ e (fun c o hc q => let ⟨c1, c2, c3, c4⟩ := nm hc; e2 _ _ c3 (e1.extBut _ _ c1 q)) he
theorem ZipSt.is {h : Heap} (hz : ZipSt h z TI TO i1 i2 d) : ∃ o, h.get? z = some o ∧ o.cls = .type "zip" := by
  rcases hz with ⟨hz, _⟩ | ⟨T, f, oT, hz, _⟩
  · exact ⟨_, hz, rfl⟩
  · exact ⟨_, hz, rfl⟩
/-- the argument of dict() -/
theorem pairs_zip (z TI TO i1 i2 l1 l2 : Addr) (D : ZipApart z TI TO i1 i2 l1 l2) (xs ys : Array Value) (hs : xs.size = ys.size) :
    PairArg P w "zip" z [z, TI, TO, i1, i2, l1, l2] [z, TO, i1, i2] xs.size (fun i k v => xs[i]? = some k ∧ ys[i]? = some v)
      (fun h => IsZip h z TI TO .none ∧ (∃ a b, IsPair h TO a b) ∧ Two h TI i1 i2 l1 l2 xs ys 0) where
  type := fun s ok => ⟨_, ok.1, rfl⟩
  notDict := by decide
  keep := fun h h' ⟨hz, ⟨a, b, hTO⟩, t⟩ hk => ⟨hk _ _ hz, ⟨a, b, hk _ _ hTO⟩, hk _ _ t.ti, t.w1.at fun o e => hk _ o e, t.w2.at fun o e => hk _ o e, t.s1.at fun o e => hk _ o e, t.s2.at fun o e => hk _ o e⟩
  there := fun h ⟨hz, ⟨a, c, hTO⟩, ⟨hTI, ⟨_, h1, _⟩, ⟨_, h2, _⟩, ⟨_, h3, _⟩, ⟨_, h4, _⟩⟩⟩ b hb => by
    simp only [List.mem_cons, List.not_mem_nil, or_false] at hb
    rcases hb with rfl | rfl | rfl | rfl | rfl | rfl | rfl
    · exact ⟨_, hz⟩
    · exact ⟨_, hTI⟩
    · exact ⟨_, hTO⟩
    · exact ⟨_, h1⟩
    · exact ⟨_, h2⟩
    · exact ⟨_, h3⟩
    · exact ⟨_, h4⟩
  sub := fun b hb => by simp at hb ⊢; rcases hb with rfl | rfl | rfl | rfl <;> simp
  noKeys := fun A s Q E hA ok h => getAttrOr_miss_zip ok.1 rfl rfl rfl zip_no_keys (by decide +kernel) hA h
  iter := fun A s d Q E hA ok hd hdf h => by
    obtain ⟨hz, hTO, t⟩ := ok
    simp only [List.mem_cons, List.not_mem_nil, or_false, not_or] at hdf
    obtain ⟨dz, dTI, dTO, di1, di2, dl1, dl2⟩ := hdf
    have step : ∀ {s₁ : Shared}, ZipSt s₁.heap z TI TO i1 i2 d → s₁.TypeIs (.ref z) "zip" := fun hz => by
      obtain ⟨o, e, c⟩ := hz.is
      exact ⟨o, e, c⟩
    refine wpAny_pyIter_zip hz (h z [z, TO, i1, i2] (fun i h => Two h TI i1 i2 l1 l2 xs ys i ∧ ZipSt h z TI TO i1 i2 d) s.heap s.toks ?_ ⟨t, .inl ⟨hz, hTO⟩⟩ (fun _ _ e => e) fun b hb => .inl hb)
    exact {
      off := fun hm => by
        simp only [List.mem_cons, List.not_mem_nil, or_false] at hm
        rcases hm with e | e | e | e
        · exact dz e
        · exact dTO e
        · exact di1 e
        · exact di2 e
      frame := fun i h₁ h₂ ⟨t, hz⟩ hk => by
        refine ⟨⟨hk _ _ (Ne.symm dTI) t.ti, t.w1.at fun o e => hk _ o (Ne.symm di1) e, t.w2.at fun o e => hk _ o (Ne.symm di2) e, t.s1.at fun o e => hk _ o (Ne.symm dl1) e, t.s2.at fun o e => hk _ o (Ne.symm dl2) e⟩, ?_⟩
        rcases hz with ⟨hz, a, b, hTO⟩ | ⟨T, f, oT, hz, hT, r1, r2, r3, r4⟩
        · exact .inl ⟨hk _ _ (Ne.symm dz) hz, a, b, hk _ _ (Ne.symm dTO) hTO⟩
        · exact .inr ⟨T, f, oT, hk _ _ (Ne.symm dz) hz, hk _ _ r4 hT, r1, r2, r3, r4⟩
      item := fun i s₁ Q₁ E₁ hi ⟨t, hz⟩ hds hQ => by
        have ex := Array.getElem?_eq_getElem hi
        have ey := Array.getElem?_eq_getElem (show i < ys.size by omega)
        have ty := step hz
        unfold pyNext
        exact wpAny_bind (wpAny_attempt (wpAny_callSpecial?_slot (name := Str.ofString "__next__") ty F.slot_zip_next (wpAny_call_entry F.slot_zip_next ty F.entry_zip_next
          (zip_step D hds hz t ex ey fun h' a1 a2 a3 a4 => wpAny_pure (hQ s₁.heap.objs.size _ _ h' s₁.toks ⟨ex, ey⟩ (.inl ⟨_, a3, rfl, _, rfl⟩) ⟨a2, a1⟩ a4)) (F.args_zip_next_1 _))))
      done := fun s₁ Q₁ E₁ ⟨t, hz⟩ hQ => by
        have ty := step hz
        unfold pyNext
        refine wpAny_bind (wpAny_attempt (wpAny_callSpecial?_slot (name := Str.ofString "__next__") ty F.slot_zip_next (wpAny_call_entry F.slot_zip_next ty F.entry_zip_next
          (zip_stop hA D hz t (Array.getElem?_eq_none (Nat.le_refl _)) fun h' e hk he => ?_) (F.args_zip_next_1 _))))
        obtain ⟨o, ho, hc⟩ := he
        exact wpAny_bind (wpAny_isInstance (T := "StopIteration") (b := true) ⟨o, ho, hc⟩ isSubtype_stop (wpAny_pure (hQ _ s₁.toks hk))) }
end
end Z

/-! Z19: dict(zip(xs, ys)); for a, b in zip(xs, ys); a, b, c = x, y, z; a cell lent to a def that only reads. -/
namespace Z
open PySem PySem.Spec PyProof.Rows L2
section
variable {P : Program} {w : World} {A : Around} {E : Value → Shared → Prop} {s : Shared}
abbrev lt1 (h : Heap) (a : Addr) : Heap := h.push { cls := .type "list_iterator", data := .fields #[.ref a, .int 0 0] }
abbrev lt2 (h : Heap) (a b : Addr) : Heap := (lt1 h a).push { cls := .type "tuple_iterator", data := .fields #[.ref b, .int 0 0] }
abbrev lt3 (h : Heap) (a b : Addr) : Heap := (lt2 h a b).push { cls := .type "tuple", data := .seq #[.ref h.objs.size, .ref (lt1 h a).objs.size] }
abbrev lt4 (h : Heap) (a b : Addr) : Heap := (lt3 h a b).push { cls := .type "tuple", data := .seq #[.none, .none] }
abbrev lt5 (h : Heap) (a b : Addr) : Heap := (lt4 h a b).push { cls := .type "zip", data := .fields #[.none, .bool false, .bool false, .ref (lt2 h a b).objs.size, .ref (lt3 h a b).objs.size] }
theorem new_zip (a b : Addr) (xs ys : Array Value) : Meets (Builtin.«zip.__new__» ⟨[.type "zip", .ref a, .ref b], []⟩) (fun _ R s => s.heap.IsList a xs ∧ s.heap.IsTuple b ys ∧ R (.ok (.ret (.ref (lt4 s.heap a b).objs.size))) { s with heap := lt5 s.heap a b }) :=
  .of_wp fun prog w A R s h => by
    obtain ⟨hp, g, d, tk, os⟩ := s
    obtain ⟨ha, hb, h⟩ := h
    have hsub := sub_zip
    have q1 : Heap.IsList (Shared.heap ⟨hp, g, d, tk, os⟩) a xs := ha
    have q2 : Heap.IsTuple (Shared.heap ⟨lt1 hp a, g, d, tk, os⟩) b ys := Heap.IsTuple.push hb _
    wp_walk using wpAny_pyIter_list q1, wpAny_pyIter_tuple q2
    exact ⟨_, rfl, h⟩
theorem call_zipLT {a b : Addr} {xs ys : Array Value} {Q : Value → Shared → Prop} (ha : s.heap.IsList a xs) (hb : s.heap.IsTuple b ys)
    (h : ∀ h' p, p = s.heap.objs.size → IsZip h' (p + 4) (p + 2) (p + 3) .none → (∃ x y, IsPair h' (p + 3) x y) → Two h' (p + 2) p (p + 1) a b xs ys 0 → h'.objs.size = p + 5 → (∀ c o, s.heap.get? c = some o → h'.get? c = some o) → Q (.ref (p + 4)) { s with heap := h' }) :
    wpAny (model P w) A (call (.type "zip") [.ref a, .ref b]) Q E s := by
  refine callType_new F.called_zip (by decide) (F.typeCall_zip_2 _ _) (F.newCall_zip_2 _ _) (fun obj => F.args_object_init_3 obj _ _) F.entry_zip_new (new_zip a b xs ys) ⟨ha, hb, ?_⟩
  have z1 : (lt1 s.heap a).objs.size = s.heap.objs.size + 1 := Heap.size_push ..
  have z2 : (lt2 s.heap a b).objs.size = s.heap.objs.size + 2 := by rw [Heap.size_push, z1]
  have z3 : (lt3 s.heap a b).objs.size = s.heap.objs.size + 3 := by rw [Heap.size_push, z2]
  have z4 : (lt4 s.heap a b).objs.size = s.heap.objs.size + 4 := by rw [Heap.size_push, z3]
  have z5 : (lt5 s.heap a b).objs.size = s.heap.objs.size + 5 := by rw [Heap.size_push, z4]
  have up5 : ∀ c o, (lt4 s.heap a b).get? c = some o → (lt5 s.heap a b).get? c = some o := fun c o e => Heap.get?_push_of_some _ e
  have up4 : ∀ c o, (lt3 s.heap a b).get? c = some o → (lt5 s.heap a b).get? c = some o := fun c o e => up5 c o (Heap.get?_push_of_some _ e)
  have up3 : ∀ c o, (lt2 s.heap a b).get? c = some o → (lt5 s.heap a b).get? c = some o := fun c o e => up4 c o (Heap.get?_push_of_some _ e)
  have up2 : ∀ c o, (lt1 s.heap a).get? c = some o → (lt5 s.heap a b).get? c = some o := fun c o e => up3 c o (Heap.get?_push_of_some _ e)
  have up1 : ∀ c o, s.heap.get? c = some o → (lt5 s.heap a b).get? c = some o := fun c o e => up2 c o (Heap.get?_push_of_some _ e)
  have g5 : (lt5 s.heap a b).get? (lt4 s.heap a b).objs.size = some _ := Heap.get?_push_size _ rfl
  have g4 : (lt5 s.heap a b).get? (lt3 s.heap a b).objs.size = some _ := up5 _ _ (Heap.get?_push_size _ rfl)
  have g3 : (lt5 s.heap a b).get? (lt2 s.heap a b).objs.size = some _ := up4 _ _ (Heap.get?_push_size _ rfl)
  have g2 : (lt5 s.heap a b).get? (lt1 s.heap a).objs.size = some _ := up3 _ _ (Heap.get?_push_size _ rfl)
  have g1 : (lt5 s.heap a b).get? s.heap.objs.size = some _ := up2 _ _ (Heap.get?_push_size _ rfl)
  show _ ∧ _
  rw [z2, z3, z4] at g5
  rw [z1, z2] at g3
  rw [z3] at g4
  rw [z1] at g2
  rw [z4]
  exact ⟨⟨_, g5, rfl⟩, h _ _ rfl g5 ⟨_, _, g4⟩ ⟨g3, ⟨_, g1, rfl, rfl⟩, ⟨_, g2, rfl, rfl⟩, ha.at fun o e => up1 _ o e, hb.at fun o e => up1 _ o e⟩ z5 up1⟩
end
section
variable {X : Cx} {tg e f a b c : Expr} {Γ : GS} {M : MS} {D : ZD} {pos pos2 p p2 : Pos} {Φ : W → MS → Prop}
abbrev keysS (ks : List Str) : List Key := ks.map Sum.inr
theorem merge_new {kvs : List (Key × V)} : ∀ {acc : List (Key × V)}, ((acc ++ kvs).map (·.1)).Nodup → mergeK acc kvs = acc ++ kvs := by
  induction kvs with
  | nil => intro acc _; simp [mergeK]
  | cons q r ih =>
    intro acc h
    have hq : (acc.any fun kv => decide (kv.1 = q.1)) = false := by
      rw [List.any_eq_false]
      intro kv hkv z
      have e : kv.1 = q.1 := of_decide_eq_true z
      rw [List.map_append, List.nodup_append] at h
      exact h.2.2 kv.1 (List.mem_map.mpr ⟨kv, hkv, rfl⟩) q.1 (by simp) e
    show mergeK (putK acc q.1 q.2) r = _
    have e : putK acc q.1 q.2 = acc ++ [q] := by
      unfold putK
      rw [hq, if_neg Bool.false_ne_true]
    rw [e, ih (by rw [List.append_assoc]; exact h), List.append_assoc]
    rfl
theorem pairs_rel {ks : List Str} : ∀ {xs : List V} {us vs : List Value}, Vals (ks.map V.str) us → Vals xs vs → ks.length = xs.length → KV (List.zip (keysS ks) xs) (List.zip (keysS ks) vs) := by
  induction ks with
  | nil => intro xs us vs _ _ _; exact .nil
  | cons k r ih =>
    intro xs us vs h1 h2 hl
    cases xs with
    | nil => simp at hl
    | cons x xs =>
      cases h1 with
      | cons a b =>
        cases h2 with
        | cons c d => exact .cons ⟨rfl, c⟩ (ih b d (by simpa using hl))
/-- dict(zip(xs, ys)), xs a list of texts, each once; ys a tuple as long -/
def tDz (ta : TA) : TE := fun σ H Q => ta σ H fun vs H1 => ∃ (a b : Addr) (ks : List Str) (xs : List V), vs = [.ref a, .ref b] ∧ H1 a = some (.lst (ks.map V.str)) ∧ H1 b = some (.tup xs) ∧ ks.length = xs.length ∧ ks.Nodup ∧
  ∀ q, H1 q = none → Q (.ref q) (upd H1 q (.dK (List.zip (keysS ks) xs)))
theorem pe_dz {ta : TA} (hc : X.calm = true) (hg : Gl X "dict") (hm : X.mg "dict" = none) (hg2 : Gl X "zip") (hm2 : X.mg "zip" = none) (ha : PA X [e, f] ta)
    (hs : starEach [e, f] X.env = (false, eval e X.env) :: starEach [f] X.env) (hpl : (backTo pos2 (starEach [f] X.env)).any (·.1) = false)
    (na : starEach [.Call (.Name "zip" p2) [e, f] [] pos2] X.env = (false, eval (.Call (.Name "zip" p2) [e, f] [] pos2) X.env) :: starEach [] X.env) :
    PE X (.Call (.Name "dict" p) [.Call (.Name "zip" p2) [e, f] [] pos2] [] pos) (tDz ta) := by
  refine ⟨fun pins s σ H Q I h => ?_⟩
  refine Call_ (ld_blt I hg hm bt_dict ?_)
  refine PyProof.Rows.callWith_type1 (PyProof.Rows.args_cons ?_ na) na rfl
  refine Call_ (ld_blt I hg2 hm2 bt_zip ?_)
  refine PyProof.Rows.callWith_type1 (thn (ha.run pos2 pins s σ H _ I h) fun us s1 ⟨vs, H1, I1, r1, q1⟩ => ?_) hs hpl
  obtain ⟨a, b, ks, xs, rfl, h1, h2, hl, nd, q⟩ := q1
  cases r1 with
  | cons r rr =>
    cases rr with
    | cons r' rr =>
      cases rr
      cases r
      cases r'
      obtain ⟨its, rv, pl, hz⟩ := I1.list (.inl (.inl h1))
      obtain ⟨its2, rv2, pl2, hz2⟩ := I1.tuple (.inl (.inl h2))
      have l1 : its.length = ks.length := by rw [← rv.length, List.length_map]
      have l2 : its2.length = ks.length := by rw [← rv2.length, hl]
      obtain ⟨o1, ho1, _⟩ := id pl2
      have lta := pl.lt
      have ltb := Heap.lt_size ho1
      refine call_zipLT pl.isList (show s1.heap.IsTuple b its2.toArray from pl2) fun h' q0 hq0 hzip hTO t hsz hk => ?_
      subst hq0
      refine PyProof.Rows.args_nil ?_
      have D := PySem.W.ktu_apart s1.heap.objs.size a b lta ltb
      have rel : KV (List.zip (keysS ks) xs) (List.zip (keysS ks) its2) := pairs_rel rv rv2 hl
      have keysN : ((List.zip (keysS ks) xs : List (Key × V)).map (·.1)).Nodup := by
        have e : (List.zip (keysS ks) xs : List (Key × V)).map (·.1) = keysS ks := List.map_fst_zip (by rw [List.length_map, hl]; exact Nat.le_refl _)
        rw [e]
        exact List.pairwise_map.mpr (List.Pairwise.imp (fun h z => h (Sum.inr.inj z)) nd)
      have szs : its.toArray.size = its2.toArray.size := by rw [List.size_toArray, List.size_toArray, l1, l2]
      have hP := pairs_zip (P := X.prog) (w := X.w) (s1.heap.objs.size + 4) (s1.heap.objs.size + 2) (s1.heap.objs.size + 3) s1.heap.objs.size (s1.heap.objs.size + 1) a b D its.toArray its2.toArray szs
      have sml : its.toArray.size ≤ sizeLine := by rw [List.size_toArray, l1, ← List.length_map (f := V.str)]; exact hz
      refine PySem.call_dict_pairs (knd := mixKind X.prog X.w) (kvs := List.zip (keysS ks) its2) (s := { s1 with heap := h' }) hP (I1.ok.hd hc) ⟨hzip, hTO, t⟩ ⟨?_, fun i key v hr => ?_⟩ sml fun h'' tk hd' k => ?_
      · rw [List.length_zip, List.length_map, l2, List.size_toArray, l1, Nat.min_self]
      · obtain ⟨e1, e2⟩ := hr
        rw [List.getElem?_toArray] at e1 e2
        have hi : i < ks.length := by rw [← l1]; exact (List.getElem?_eq_some_iff.mp e1).1
        have ek : ks[i]? = some ks[i] := List.getElem?_eq_getElem hi
        obtain ⟨u, e3, ru⟩ := Vals.get (i := i) (x := .str ks[i]) rv (by rw [List.getElem?_map, ek]; rfl)
        rw [e1] at e3
        cases e3
        obtain ⟨tk, rfl⟩ := ru
        refine ⟨.inr ks[i], ?_, mixKind_str X.prog X.w _ _⟩
        rw [List.getElem?_zip_eq_some]
        exact ⟨by rw [List.getElem?_map, ek]; rfl, e2⟩
      · have kp : ∀ c o, s1.heap.get? c = some o → h''.get? c = some o := fun c o e => k c o (fun m => by
          have lc : c < s1.heap.objs.size := Heap.lt_size e
          have ge : s1.heap.objs.size ≤ c := by
            simp only [List.mem_cons, List.not_mem_nil, or_false] at m
            rcases m with z | z | z | z
            · rw [z]; exact Nat.le_add_right _ _
            · rw [z]; exact Nat.le_add_right _ _
            · rw [z]; exact Nat.le_refl _
            · rw [z]; exact Nat.le_add_right _ _
          exact absurd lc (Nat.not_lt.mpr ge)) (hk c o e)
        have ge : s1.heap.objs.size ≤ h'.objs.size := by rw [hsz]; exact Nat.le_add_right _ _
        have hm : (h'.objs.size == sysModules) = false := beq_eq_false_iff_ne.mpr (Nat.ne_of_gt (Nat.lt_of_lt_of_le I1.big ge))
        have lenz : (List.zip (keysS ks) xs).length = ks.length := by rw [List.length_zip, List.length_map, hl, Nat.min_self]
        have e : mergeK [] (List.zip (keysS ks) xs) = List.zip (keysS ks) xs := by
          have := merge_new (kvs := List.zip (keysS ks) xs) (acc := []) (by simpa using keysN)
          simpa using this
        have ok : ObjOk X.prog X.w (upd H1 h'.objs.size (.dK (List.zip (keysS ks) xs))) h'' h'.objs.size (.dK (List.zip (keysS ks) xs)) := by
          refine ⟨?_, hm, merged [] (List.zip (keysS ks) its2), ?_, hd'⟩
          · rw [lenz, ← List.length_map (f := V.str)]; exact hz
          · have := KV.merge rel .nil
            rw [e] at this
            exact this
        exact ⟨.ref h'.objs.size, _, I1.laid (t' := tk) kp ge ok, rfl, q _ (I1.hok.fresh ge)⟩
end
end Z

/-! Z20: the rules of Z19 at the level of data. -/
namespace Z
open PySem PySem.Spec PyProof.Rows L2
section
variable {X : Cx} {tg e f a b c : Expr} {es : List Expr} {Γ : GS} {M : MS} {D : ZD} {pos pos2 p p2 : Pos} {Φ : W → MS → Prop} {Ψ : List PyData → MS → Prop}
theorem za_two {Θ : W → W → MS → Prop} (h : ZE X e Γ M fun y M1 => ZE X f Γ M1 fun z M2 => Θ y z M2) (h1 : starEach [e, f] X.env = (false, eval e X.env) :: starEach [f] X.env) (h2 : starEach [f] X.env = (false, eval f X.env) :: starEach [] X.env) :
    ZA X [e, f] Γ M fun ws M2 => ∃ y z, ws = [y, z] ∧ Θ y z M2 := za_cons (h.mono fun y M1 q => za_cons (q.mono fun z M2 q2 => za_nil ⟨y, z, rfl, q2⟩) h2) h1
theorem zip_rks {F : Hp} {ι : List Addr} : ∀ {ks : List Key} {xs : List V} {ds : List PyData}, AtAll F xs ds → RKs F ι (List.zip ks xs) (List.zip ks (ds.map .d))
  | [], _, _, _ => by simp; exact .nil
  | k :: ks, _, _, .nil => by simp; exact .nil
  | k :: ks, _, _, .cons h t => .cons ⟨rfl, h⟩ (zip_rks t)
theorem ze_dictZip (hc : X.calm = true) (hm : X.mg "dict" = none) (hm2 : X.mg "zip" = none)
    (h : ZE X e Γ M fun y M1 => ZE X f Γ M1 fun z M2 => ∃ (ks : List Str) (ds : List PyData), y = .d (.list (ks.map .str)) ∧ z = .d (.tuple ds) ∧ ks.length = ds.length ∧ ks.Nodup ∧ Φ (.m M2.length) (M2 ++ [.dic (List.zip (keysS ks) (ds.map .d))]))
    (hg : Gl X "dict" := by rfl) (hg2 : Gl X "zip" := by rfl) (hs : starEach [e, f] X.env = (false, eval e X.env) :: starEach [f] X.env := by rfl) (hs2 : starEach [f] X.env = (false, eval f X.env) :: starEach [] X.env := by rfl)
    (hpl : (backTo pos2 (starEach [f] X.env)).any (·.1) = false := by rfl)
    (na : starEach [.Call (.Name "zip" p2) [e, f] [] pos2] X.env = (false, eval (.Call (.Name "zip" p2) [e, f] [] pos2) X.env) :: starEach [] X.env := by rfl) :
    ZE X (.Call (.Name "dict" p) [.Call (.Name "zip" p2) [e, f] [] pos2] [] pos) Γ M Φ := fun F ι σ H R S => by
  refine w_e (pe_dz hc hg hm hg2 hm2 pa_w hs hpl na) ((za_two h hs hs2 F ι σ H R S).mono ?_)
  rintro vs H1 ⟨F1, ι1, M1, ws, E1, R1, rv, y, z, rfl, ks, ds, rfl, rfl, hl, nd, φ⟩
  obtain ⟨v, u, rfl, rv, ru⟩ := two_ rv
  obtain ⟨a, vs, rfl, fa, ra⟩ := At.lst_ rv
  obtain ⟨b, us, rfl, fb, rb⟩ := At.tup_ ru
  rw [ra.strs] at fa
  refine ⟨a, b, ks, us, rfl, R1.sub _ _ fa, R1.sub _ _ fb, by rw [rb.len]; exact hl, nd, fun q n => ?_⟩
  obtain ⟨E2, R2⟩ := R1.new (o := .dK (List.zip (keysS ks) us)) (mo := .dic (List.zip (keysS ks) (ds.map .d))) n ⟨_, rfl, zip_rks rb⟩
  exact ⟨F1, _, _, .m M1.length, E1.trans E2, R2, RW.m (by rw [← R1.len]; simp), φ⟩
theorem grow_lay {F H : Hp} {q : Addr} {o : HO} (s : Same F H) (n : H q = none) : Grow F H (upd F q o) (upd H q o) := by
  have nF : F q = none := s.free n
  refine ⟨fun b x e => by rw [upd_ne (ne_of_none e nF)]; exact e, fun b x e => by rw [upd_ne (ne_of_none e n)]; exact e, fun b x e => ?_, fun b x e k => ?_⟩
  · by_cases hb : b = q
    · subst hb; rw [upd_same] at e ⊢; exact e
    · rw [upd_ne hb] at e ⊢; exact s b x e
  · by_cases hb : b = q
    · subst hb; exact n
    · rw [upd_ne hb, k] at e; cases e
def pairsD (xs ys : List PyData) : List PyData := List.zipWith (fun a b => .tuple [a, b]) xs ys
theorem pairsD_get {xs ys : List PyData} {i : Nat} {d : PyData} (h : (pairsD xs ys)[i]? = some d) : ∃ x y, xs[i]? = some x ∧ ys[i]? = some y ∧ d = .tuple [x, y] := by
  unfold pairsD at h
  rw [List.getElem?_zipWith] at h
  cases h1 : xs[i]? with
  | none => rw [h1] at h; simp at h
  | some x =>
    cases h2 : ys[i]? with
    | none => rw [h1, h2] at h; simp at h
    | some y =>
      rw [h1, h2] at h
      exact ⟨x, y, rfl, rfl, (Option.some.inj h).symm⟩
theorem yld_zip {K : PySem.W.Frag} {F H1 : Hp} {a b : Addr} {vs us : List V} {xs ys : List PyData} (fa : F a = some (.lst vs)) (ra : AtAll F vs xs) (fb : F b = some (.lst us)) (rb : AtAll F us ys) : Yld F H1 (Itz K a b) (pairsD xs ys) := fun F' H s1 s2 i => by
  have ha : SqL K H a vs := .of (s2 _ _ (s1.s _ _ fa))
  have hb : SqL K H b us := .of (s2 _ _ (s1.s _ _ fb))
  refine ⟨fun d e => ?_, fun h => ⟨vs, us, ha, hb, ?_⟩⟩
  · obtain ⟨x, y, e1, e2, rfl⟩ := pairsD_get e
    obtain ⟨v, e3, rv⟩ := ra.get e1
    obtain ⟨u, e4, ru⟩ := rb.get e2
    refine ⟨⟨vs, us, v, u, ha, hb, e3, e4⟩, ?_⟩
    rintro z H' ⟨T, x', y', rfl, n, rfl, f1, f2⟩
    obtain rfl : v = x' := Option.some.inj (e3.symm.trans (f1 _ ha))
    obtain rfl : u = y' := Option.some.inj (e4.symm.trans (f2 _ hb))
    have g := grow_lay (o := .tup [v, u]) s2 n
    exact ⟨_, g, .tup upd_same (.cons (rv.up (s1.s.trans g.same)) (.cons (ru.up (s1.s.trans g.same)) .nil))⟩
  · unfold pairsD at h
    rw [List.length_zipWith] at h
    rw [ra.len, rb.len]
    omega
theorem yld_zipT {K : PySem.W.Frag} {F H1 : Hp} {a b : Addr} {vs us : List V} {xs ys : List PyData} (fa : F a = some (.tup vs)) (ra : AtAll F vs xs) (fb : F b = some (.tup us)) (rb : AtAll F us ys) : Yld F H1 (RZ.ItzT K a b) (pairsD xs ys) := fun F' H s1 s2 i => by
  have ha : SqT K H a vs := .of (s2 _ _ (s1.s _ _ fa))
  have hb : SqT K H b us := .of (s2 _ _ (s1.s _ _ fb))
  refine ⟨fun d e => ?_, fun h => ⟨vs, us, ha, hb, ?_⟩⟩
  · obtain ⟨x, y, e1, e2, rfl⟩ := pairsD_get e
    obtain ⟨v, e3, rv⟩ := ra.get e1
    obtain ⟨u, e4, ru⟩ := rb.get e2
    refine ⟨⟨vs, us, v, u, ha, hb, e3, e4⟩, ?_⟩
    rintro z H' ⟨T, x', y', rfl, n, rfl, f1, f2⟩
    obtain rfl : v = x' := Option.some.inj (e3.symm.trans (f1 _ ha))
    obtain rfl : u = y' := Option.some.inj (e4.symm.trans (f2 _ hb))
    have g := grow_lay (o := .tup [v, u]) s2 n
    exact ⟨_, g, .tup upd_same (.cons (rv.up (s1.s.trans g.same)) (.cons (ru.up (s1.s.trans g.same)) .nil))⟩
  · unfold pairsD at h
    rw [List.length_zipWith] at h
    rw [ra.len, rb.len]
    omega
/-- for a, b in zip(xs, ys) -/
theorem zi_zip {elts : List Expr} {kk : Nat} {tpos : Pos} (hm : X.mg "zip" = none)
    (h : ZE X e Γ M fun y M1 => ZE X f Γ M1 fun z M2 => ∃ xs ys, ((y = .d (.list xs) ∧ z = .d (.list ys)) ∨ (y = .d (.tuple xs) ∧ z = .d (.tuple ys))) ∧ Ψ (pairsD xs ys) M2) (hg : Gl X "zip" := by rfl)
    (hs : starEach [e, f] X.env = (false, eval e X.env) :: starEach [f] X.env := by rfl) (hs2 : starEach [f] X.env = (false, eval f X.env) :: starEach [] X.env := by rfl)
    (hpl : (backTo pos (starEach [f] X.env)).any (·.1) = false := by rfl) : ZI X (.Tuple elts kk tpos) (.Call (.Name "zip" p) [e, f] [] pos) Γ M Ψ := fun F ι σ H R S => by
  refine w_i (RZ.pi_zipA hg hm pa_w hs hpl) ((za_two h hs hs2 F ι σ H R S).mono ?_)
  rintro vs H1 ⟨F1, ι1, M1, ws, E1, R1, rv, y, z, rfl, xs, ys, hyz, ψ⟩
  obtain ⟨v, u, rfl, rv1, ru⟩ := two_ rv
  rcases hyz with ⟨rfl, rfl⟩ | ⟨rfl, rfl⟩
  · obtain ⟨a, vs, rfl, fa, ra⟩ := At.lst_ rv1
    obtain ⟨b, us, rfl, fb, rb⟩ := At.lst_ ru
    exact ⟨a, b, vs, us, rfl, .inl ⟨.of (R1.sub _ _ fa), .of (R1.sub _ _ fb), F1, ι1, M1, _, E1, R1, yld_zip fa ra fb rb, ψ⟩⟩
  · obtain ⟨a, vs, rfl, fa, ra⟩ := At.tup_ rv1
    obtain ⟨b, us, rfl, fb, rb⟩ := At.tup_ ru
    exact ⟨a, b, vs, us, rfl, .inr ⟨.of (R1.sub _ _ fa), .of (R1.sub _ _ fb), F1, ι1, M1, _, E1, R1, yld_zipT fa ra fb rb, ψ⟩⟩
/-- a, b, c = x, y, z -/
theorem zs_par3 (i j l : Nat) {x y z : Str} {px py pz pt : Pos} {kt k2 pt2} (hc : X.calm = true) (h : ZE X a Γ M fun v M1 => ZE X b Γ M1 fun w M2 => ZE X c Γ M2 fun u M3 => D.nx (((Γ.set i (some v)).set j (some w)).set l (some u)) M3)
    (hN : X.N.Nodup) (hi : X.N[i]? = some x := by rfl) (hj : X.N[j]? = some y := by rfl) (hl : X.N[l]? = some z := by rfl) (hij : i ≠ j := by decide) (hil : i ≠ l := by decide) (hjl : j ≠ l := by decide)
    (hx : X.env.scope.names.lookup x = some .local := by rfl) (hy : X.env.scope.names.lookup y = some .local := by rfl) (hz : X.env.scope.names.lookup z = some .local := by rfl)
    (hw : swappedStores [.Tuple [.Name x px, .Name y py, .Name z pz] kt pt] (.Tuple [a, b, c] k2 pt2) X.env = pure (some [x, y, z]) := by rfl)
    (hs : swapsWithSole [.Tuple [.Name x px, .Name y py, .Name z pz] kt pt] (.Tuple [a, b, c] k2 pt2) pos.line X.env = pure false := by rfl)
    (hs1 : starEach [a, b, c] X.env = (false, eval a X.env) :: starEach [b, c] X.env := by rfl) (hs2 : starEach [b, c] X.env = (false, eval b X.env) :: starEach [c] X.env := by rfl) (hs3 : starEach [c] X.env = (false, eval c X.env) :: starEach [] X.env := by rfl) :
    ZS X (.Assign [.Tuple [.Name x px, .Name y py, .Name z pz] kt pt] (.Tuple [a, b, c] k2 pt2) pos) Γ M D := fun F ι σ H R S => by
  have ha : ZA X [a, b, c] Γ M fun ws M2 => ∃ v w u, ws = [v, w, u] ∧ D.nx (((Γ.set i (some v)).set j (some w)).set l (some u)) M2 :=
    za_cons (h.mono fun v M1 q => za_cons (q.mono fun w M2 q2 => za_cons (q2.mono fun u M3 q3 => za_nil ⟨v, w, u, rfl, q3⟩) hs3) hs2) hs1
  refine w_s (ps_par3 hc hN hi hj hl hij hil hjl hx hy hz pa_w hw hs) ((ha F ι σ H R S).mono ?_)
  rintro vs H1 ⟨F1, ι1, M1, ws, E1, R1, r, v, w, u, rfl, q⟩
  cases r with
  | cons r1 r2 =>
    cases r2 with
    | cons r2 r3 =>
      cases r3 with
      | cons r3 r4 =>
        cases r4
        exact ⟨_, _, _, rfl, F1, ι1, M1, _, E1, R1, (((E1.slots S).set i r1).set j r2).set l r3, q⟩
/-- what a lent argument is read as: data, or a list's cell whose parts are data -/
def LendW (M : MS) (w : W) (d : PyData) : Prop := w = .d d ∨ ∃ j ds, w = .m j ∧ M[j]? = some (.lst (ds.map .d)) ∧ d = .list ds
theorem lend_at {F H : Hp} {ι : List Addr} {v : V} {w : W} {d : PyData} (R : Rep F H ι M) (r : RW F ι v w) (h : LendW M w d) : At H v d := by
  rcases h with rfl | ⟨j, ds, rfl, hm, rfl⟩
  · exact At.up R.sub r
  · obtain ⟨c, vs, rfl, _, h1, r'⟩ := cell_at R r hm
    exact .lst h1 ((RWs.dat r').up R.sub)
theorem flat_at {F F' : Hp} {v : V} {d : PyData} (h : At F v d) (f : flatD d = true) : At F' v d := by
  cases h with
  | non => exact .non
  | bl b => exact .bl b
  | int i => exact .int i
  | str x => exact .str x
  | lst _ _ => cases f
  | tup _ _ => cases f
  | dic _ _ => cases f
/-- a call of a def that only reads: its arguments are lent, its answer is no object -/
theorem ze_lend {T : Top} {k : Nat} {x : Str} {ps : List Str} {S : ZSp} (C : Fz T k x ps S) (o : On T X) (hr : RoomZ k X.A)
    (h : ZA X (e :: es) Γ M fun ws M1 => ws.length = ps.length ∧ ∃ ds, Paired (LendW M1) ws ds ∧ S (ds.map .d) [] fun w _ => ∃ d, w = .d d ∧ flatD d = true ∧ Φ (.d d) M1) (hg : Gl X x := by rfl) (hdb : (x == ("__debug__" : Str)) = false := by decide)
    (he : starEach (e :: es) X.env = (false, eval e X.env) :: starEach es X.env := by rfl) (hpl : (backTo pos (starEach es X.env)).any (·.1) = false := by rfl) :
    ZE X (.Call (.Name x p) (e :: es) [] pos) Γ M Φ := fun F ι σ H R Sl pins s I => by
  obtain ⟨f, fd, hm, hk, hb, G⟩ := C
  obtain ⟨oP, ow, oK, omg, ob⟩ := o
  refine wpAny_Call_Name_kw (ld_glob I hg (by rw [omg]; exact hm) ?_ hdb)
  refine PySem.W.callWith_K (h₀ := X.base) I.ok.mod.kin (by rw [oK]; exact hk) (thn (h F ι σ H R Sl pos pins s I) ?_) he hpl
  rintro us s1 ⟨vs, H1, I1, r, F1, ι1, M1, ws, E1, R1, rw', hl, ds, hd, hS⟩
  refine ⟨I1.kIn, wpAny_call ?_⟩
  have e0 := I1.env0
  have hv : vs.length = ps.length := by rw [rw'.len]; exact hl
  have hu : us.length = ps.length := by rw [← r.length]; exact hv
  have kin : T.K.In s1.heap := by rw [← oK]; exact I1.kIn
  have hb' := hb s1 us kin (by simpa using hu)
  rw [List.append_nil] at hb'
  rw [oP, ow] at e0 ⊢
  rw [oK, omg, ob] at e0
  have all : ∀ {vs : List V} {ws : List W} {ds : List PyData}, RWs F1 ι1 vs ws → Paired (LendW M1) ws ds → RWs H1 [] vs (ds.map .d) := by
    intro vs ws ds h1 h2
    induction h1 generalizing ds with
    | nil => cases h2; exact .nil
    | cons a _ ih =>
      cases h2 with
      | cons b t => exact .cons (lend_at R1 a b) (ih t)
  have R0 : Rep H1 H1 [] [] := ⟨Same.refl H1, rfl, List.nodup_nil, fun a m => absurd m (by simp), fun k a mo e => by simp at e⟩
  refine codeAny_mono (G.run X.A X.stack s1 H1 ⟨us, []⟩ us vs (Post F ι H Φ) E0 hr e0 hb' r ⟨hv, H1, [], [], ds.map .d, _, R0, all rw' hd, hS, fun v H' q => ?_⟩) fun r s' hq => ?_
  · obtain ⟨F', ι', M', w, E2, R2, rw2, d, rfl, fl, φ⟩ := q
    have kp : Same H1 H' := fun a o e => E2.kp a o e (by simp)
    have E3 : Ext F1 ι1 H1 F1 ι1 H' := ⟨Same.refl F1, ⟨[], by simp⟩, fun a o e _ => kp a o e, fun a m n => absurd m n, fun a o e n => (by rw [n] at e; cases e), fun a od u e => kp a _ e⟩
    have R3 : Rep F1 H' ι1 M1 := ⟨R1.sub.trans kp, R1.len, R1.nd, fun a m => let ⟨o, e⟩ := R1.tr a m; ⟨o, kp a o e⟩, fun k a mo h1 h2 => by
      rcases R1.at_ k a mo h1 h2 with z | ⟨z1, o, z2, z3⟩
      · exact .inl z
      · exact .inr ⟨z1, o, kp a o z2, z3⟩⟩
    exact ⟨F1, ι1, M1, .d d, E1.trans E3, R3, flat_at rw2 fl, φ⟩
  · cases r with
    | error e => exact False.elim hq
    | ok fl =>
      cases fl with
      | ret u => exact I1.after (by rw [oP, ow]; exact hq)
      | next => exact False.elim hq
      | brk => exact False.elim hq
      | cont => exact False.elim hq
end
end Z

/-! Z21: houses, tables, deeds: the data, what the law's draws may give. -/
namespace Z
open PySem PySem.Spec PyProof.Rows L2
/-! ### small help -/
theorem at_end {α : Type} (A : List α) (x : α) : (A ++ [x])[A.length]? = some x := by simp
theorem set_end {α : Type} (A : List α) (x y : α) : (A ++ [x]).set A.length y = A ++ [y] := by simp
theorem cl_bag {b b' : Bag} {R : MS} (h : Cl (bagO b :: R)) : Cl (bagO b' :: R) := fun mo hm => by
  rcases List.mem_cons.mp hm with rfl | hm
  · intro w hw
    simp only [List.mem_cons, List.not_mem_nil, or_false] at hw
    rcases hw with rfl | rfl | rfl | rfl <;> trivial
  · exact h mo (List.mem_cons_of_mem _ hm)
theorem fin_list {A : MS} {n : Nat} {es : List PyData} {Φ : W → MS → Prop} (hn : n ≤ A.length) (cl : Cl A) (h : Φ (.d (.list es)) A) : Fin n Φ (.m A.length) (A ++ [.lst (es.map .d)]) := by
  refine Fin.frz (ds := es) (at_end A _) ?_
  rw [set_end]
  exact Fin.drop hn cl trivial (.ok h)
theorem fin_dict {A : MS} {n : Nat} {ks : List (Key × PyData)} {Φ : W → MS → Prop} (hn : n ≤ A.length) (cl : Cl A) (h : Φ (.d (dictK ks)) A) : Fin n Φ (.m A.length) (A ++ [.dic (ks.map fun q => (q.1, .d q.2))]) := by
  refine Fin.frzD (kws := ks) (at_end A _) ?_
  rw [set_end]
  exact Fin.drop hn cl trivial (.ok h)
theorem fin_dat {A J : MS} {n : Nat} {d : PyData} {Φ : W → MS → Prop} (hn : n ≤ A.length) (cl : Cl A) (h : Φ (.d d) A) : Fin n Φ (.d d) (A ++ J) := Fin.drop hn cl trivial (.ok h)
theorem perm_insert {α : Type} (es : List α) (i : Nat) (z : α) : (es.take i ++ [z] ++ es.drop i).Perm (es ++ [z]) := by
  have h : (es.take i ++ ([z] ++ es.drop i)).Perm (es.take i ++ (es.drop i ++ [z])) := List.Perm.append_left _ List.perm_append_comm
  rw [← List.append_assoc, ← List.append_assoc, List.take_append_drop] at h
  exact h
theorem perm_map {α β : Type} {f : α → β} {g : β → α} (hg : ∀ a, g (f a) = a) {es : List β} {l : List α} (h : es.Perm (l.map f)) : ∃ l' : List α, es = l'.map f ∧ l'.Perm l := by
  refine ⟨es.map g, ?_, ?_⟩
  · rw [List.map_map]
    refine (List.map_id es).symm.trans (List.map_congr_left fun e he => ?_)
    obtain ⟨a, _, rfl⟩ := List.mem_map.mp (h.mem_iff.mp he)
    simp [hg]
  · have := h.map g
    rw [List.map_map] at this
    rw [show (g ∘ f) = id from funext hg, List.map_id] at this
    exact this
theorem mem_ints {ns : List Int} {d : PyData} (h : d ∈ ns.map PyData.int) : ∃ n ∈ ns, d = .int n := by
  obtain ⟨n, hn, rfl⟩ := List.mem_map.mp h
  exact ⟨n, hn, rfl⟩
def unS : PyData → Str
  | .str x => x
  | _ => Str.empty
theorem perm_strs {es : List PyData} {ss : List Str} (h : es.Perm (ss.map .str)) : ∃ ss' : List Str, es = ss'.map .str ∧ ss'.Perm ss := perm_map (g := unS) (fun _ => rfl) h
theorem cut_take {α : Type} (xs : List α) {n : Int} (h : 0 ≤ n) : cutD xs none (some n) = xs.take n.toNat := by
  unfold cutD
  rw [sx h, HT.sIx_none, List.drop_zero, Nat.sub_zero]
  by_cases k : n.toNat ≤ xs.length
  · rw [Nat.min_eq_left k]
  · rw [Nat.min_eq_right (by omega), List.take_of_length_le (Nat.le_refl _), List.take_of_length_le (by omega)]
theorem atI_get {α : Type} {xs : List α} {i : Int} (h0 : 0 ≤ i) (h1 : i < xs.length) : ∃ x, atI xs i = some x ∧ x ∈ xs := by
  have hi : i.toNat < xs.length := by omega
  refine ⟨xs[i.toNat], ?_, List.getElem_mem hi⟩
  have := atI_nat (List.getElem?_eq_getElem hi)
  rwa [Int.toNat_of_nonneg h0] at this
/-! ### the data -/
structure HRow where
  name : Str
  least : Int
  most : Option Int
def optD : Option Int → PyData
  | none => .none
  | some i => .int i
def rowD (r : HRow) : PyData := .tuple [.str r.name, .int r.least, optD r.most]
def houseD (h : List HRow) : PyData := .tuple (h.map rowD)
structure RowOk (r : HRow) : Prop where
  l0 : 0 ≤ r.least
  l1 : r.least ≤ 3
  m : ∀ x, r.most = some x → r.least ≤ x ∧ x ≤ 20
theorem rowOk {nm : Str} {l : Int} {m : Option Int} (h0 : 0 ≤ l) (h1 : l ≤ 3) (h2 : ∀ x, m = some x → l ≤ x ∧ x ≤ 20) : RowOk ⟨nm, l, m⟩ := ⟨h0, h1, h2⟩
def menu : List Str := ["a", "b", "c", "ab", "rank", "kth", "open", "sort", "rows", "is", "at", "count", "fact", "zzzzzz", "x", "gym", "jvl"]
structure HouseOk (h : List HRow) : Prop where
  n0 : h ≠ []
  n1 : h.length ≤ 9
  nd : (h.map (·.name)).Nodup
  mem : ∀ r ∈ h, r.name ∈ menu
  row : ∀ r ∈ h, RowOk r
abbrev Tab := List (Str × List Int)
def tabD (t : Tab) : PyData := dictK (t.map fun p => (.inr p.1, .tuple (p.2.map .int)))
structure TabOk (h : List HRow) (pool : List Int) (t : Tab) : Prop where
  keys : (t.map (·.1)).Perm (h.map (·.name))
  rows : ∀ p ∈ t, p.2.Pairwise (· ≤ ·) ∧ p.2.length ≤ 40 ∧ ∀ n ∈ p.2, n ∈ pool
inductive Deed where
  | come (a : Str) (n : Int)
  | go (a : Str) (k : Int)
  | keep (a : Str) (k : Int)
  | move (a : Str) (k : Int) (b : Str)
  | merge (a b : Str)
def deedD : Deed → PyData
  | .come a n => .tuple [.str "come", .str a, .int n]
  | .go a k => .tuple [.str "go", .str a, .int k]
  | .keep a k => .tuple [.str "keep", .str a, .int k]
  | .move a k b => .tuple [.str "move", .str a, .int k, .str b]
  | .merge a b => .tuple [.str "merge", .str a, .str b]
def DeedOk (names : List Str) (pool : List Int) : Deed → Prop
  | .come a n => a ∈ names ∧ n ∈ pool
  | .go a k => a ∈ names ∧ 1 ≤ k ∧ k ≤ 1000
  | .keep a k => a ∈ names ∧ 0 ≤ k ∧ k ≤ 1000
  | .move a k b => a ∈ names ∧ 1 ≤ k ∧ k ≤ 1000 ∧ b ∈ names ∧ a ≠ b
  | .merge a b => a ∈ names ∧ b ∈ names ∧ a ≠ b
def scriptD (ds : List Deed) : PyData := .tuple (ds.map deedD)
theorem get_map {α β : Type} {f : α → β} {xs : List α} {i : Nat} {d : β} (h : (xs.map f)[i]? = some d) : ∃ x, xs[i]? = some x ∧ d = f x := by
  rw [List.getElem?_map] at h
  cases e : xs[i]? with
  | none => rw [e] at h; cases h
  | some x => rw [e] at h; exact ⟨x, rfl, (Option.some.inj h).symm⟩
theorem take_next {α : Type} {xs : List α} {i : Nat} {x : α} (h : xs[i]? = some x) : xs.take (i + 1) = xs.take i ++ [x] := by rw [List.take_add_one, h]; rfl
def unOpt : PyData → Option Int
  | .int i => some i
  | _ => none
def unRow : PyData → HRow
  | .tuple [.str n, .int l, m] => ⟨n, l, unOpt m⟩
  | _ => ⟨Str.empty, 0, none⟩
theorem unRow_ok (r : HRow) : unRow (rowD r) = r := by
  obtain ⟨n, l, _ | m⟩ := r <;> rfl
theorem perm_rows {es : List PyData} {h : List HRow} (p : es.Perm (h.map rowD)) : ∃ h' : List HRow, es = h'.map rowD ∧ h'.Perm h := perm_map unRow_ok p
theorem all_of {α : Type} {f : α → PyData} {P : α → Prop} : ∀ {zs : List PyData}, (∀ z ∈ zs, ∃ n, P n ∧ z = f n) → ∃ ns : List α, zs = ns.map f ∧ ∀ n ∈ ns, P n
  | [], _ => ⟨[], rfl, by simp⟩
  | z :: zs, h => by
    obtain ⟨n, hn, rfl⟩ := h z List.mem_cons_self
    obtain ⟨ns, rfl, hs⟩ := all_of fun y hy => h y (List.mem_cons_of_mem _ hy)
    exact ⟨n :: ns, rfl, fun m hm => by
      rcases List.mem_cons.mp hm with rfl | hm
      · exact hn
      · exact hs m hm⟩
theorem tab_new {h hs : List HRow} {t : Tab} {i : Nat} {r : HRow} (ok : HouseOk h) (ph : hs.Perm h) (hr : hs[i]? = some r) (ht : t.map (·.1) = (hs.take i).map (·.name)) :
    ((t.map fun p : Str × List Int => ((Sum.inr p.1 : Key), W.d (.tuple (p.2.map .int)))).any fun kv => decide (kv.1 = Sum.inr r.name)) = false := by
  rw [List.any_eq_false]
  intro kv hkv z
  have e : kv.1 = Sum.inr r.name := of_decide_eq_true z
  obtain ⟨p, hp, rfl⟩ := List.mem_map.mp hkv
  have e2 : p.1 = r.name := Sum.inr.inj e
  have m1 : r.name ∈ (hs.take i).map (·.name) := by rw [← ht, ← e2]; exact List.mem_map.mpr ⟨p, hp, rfl⟩
  have nd : (hs.map (·.name)).Nodup := (ph.map _).nodup_iff.mpr ok.nd
  have e3 : hs.map (·.name) = (hs.take i).map (·.name) ++ (hs.drop i).map (·.name) := by rw [← List.map_append, List.take_append_drop]
  rw [e3, List.nodup_append] at nd
  have m2 : r.name ∈ (hs.drop i).map (·.name) := by
    refine List.mem_map.mpr ⟨r, ?_, rfl⟩
    have := (List.getElem?_eq_some_iff.mp hr)
    obtain ⟨hi, hv⟩ := this
    rw [← hv, List.drop_eq_getElem_cons hi]
    exact List.mem_cons_self
  exact nd.2.2 _ m1 _ m2 rfl
/-! ### what the law's helpers promise -/
def SeqD (w : W) (ds : List PyData) : Prop := w = .d (.list ds) ∨ w = .d (.tuple ds)
def oneS : ZSp := fun ws M Φ => ∃ (b : Bag) (R : MS) (w : W) (ds : List PyData), ws = [.m 0, w] ∧ M = bagO b :: R ∧ SeqD w ds ∧ b.Good ∧ 0 < ds.length ∧ ds.length < 1000 ∧
  ∀ (d : PyData) (b' : Bag), d ∈ ds → b'.Good → Φ (.d d) (bagO b' :: R)
def mixedS : ZSp := fun ws M Φ => ∃ (b : Bag) (R : MS) (w : W) (ds : List PyData), ws = [.m 0, w] ∧ M = bagO b :: R ∧ SeqD w ds ∧ b.Good ∧ ds.length < 1000 ∧
  ∀ (es : List PyData) (b' : Bag), es.Perm ds → b'.Good → Φ (.d (.list es)) (bagO b' :: R)
theorem names_end {ss : List Str} {many : Int} (ps : ss.Perm menu) (h1 : 1 ≤ many) (h2 : many ≤ 9) : (sortS (ss.take many.toNat)).Nodup ∧ ((sortS (ss.take many.toNat)).length : Int) = many ∧ ∀ s ∈ sortS (ss.take many.toNat), s ∈ menu := by
  have hl : ss.length = 17 := by rw [ps.length_eq]; rfl
  refine ⟨(sortS_perm _).nodup_iff.mpr ((ps.nodup_iff.mpr (by decide)).sublist (List.take_sublist _ _)), ?_, fun s hs => ps.mem_iff.mp (List.mem_of_mem_take ((sortS_perm _).mem_iff.mp hs))⟩
  rw [(sortS_perm _).length_eq, List.length_take]
  omega
def namesS : ZSp := fun ws M Φ => ∃ (b : Bag) (R : MS) (many : Int), ws = [.m 0, .d (.int many)] ∧ M = bagO b :: R ∧ b.Good ∧ 1 ≤ many ∧ many ≤ 9 ∧
  ∀ (ss : List Str) (b' : Bag), ss.Nodup → (ss.length : Int) = many → (∀ s ∈ ss, s ∈ menu) → b'.Good → Φ (.d (.tuple (ss.map .str))) (bagO b' :: R)
def sortRowS : ZSp := fun ws M Φ => ∃ (b : Bag) (R : MS) (nm : Str), ws = [.m 0, .d (.str nm)] ∧ M = bagO b :: R ∧ b.Good ∧
  ∀ (l : Int) (m : Option Int) (b' : Bag), RowOk ⟨nm, l, m⟩ → b'.Good → Φ (.d (rowD ⟨nm, l, m⟩)) (bagO b' :: R)
def houseS : ZSp := fun ws M Φ => ∃ (b : Bag) (R : MS) (most : Int), ws = [.m 0, .d (.int most)] ∧ M = bagO b :: R ∧ b.Good ∧ 1 ≤ most ∧ most ≤ 9 ∧
  ∀ (h : List HRow) (b' : Bag), HouseOk h → b'.Good → Φ (.d (houseD h)) (bagO b' :: R)
def numB : Int := 10000000000000000000000000000000000000000
def PoolOk (pool : List Int) : Prop := pool ≠ [] ∧ pool.length ≤ 7 ∧ ∀ n ∈ pool, -numB ≤ n ∧ n ≤ numB
def numbersS : ZSp := fun ws M Φ => ∃ (b : Bag) (R : MS), ws = [.m 0] ∧ M = bagO b :: R ∧ b.Good ∧
  ∀ (pool : List Int) (b' : Bag), PoolOk pool → b'.Good → Φ (.d (.list (pool.map .int))) (bagO b' :: R)
def sizeS : ZSp := fun ws M Φ => ∃ (b : Bag) (R : MS) (r : HRow) (more : Int), ws = [.m 0, .d (rowD r), .d (.int more)] ∧ M = bagO b :: R ∧ b.Good ∧ RowOk r ∧ 0 ≤ more ∧ more ≤ 9 ∧
  ∀ (n : Int) (b' : Bag), 0 ≤ n → n ≤ 40 → b'.Good → Φ (.d (.int n)) (bagO b' :: R)
def tableS : ZSp := fun ws M Φ => ∃ (b : Bag) (R : MS) (h : List HRow) (pool : List Int) (more : Int), ws = [.m 0, .d (houseD h), .d (.list (pool.map .int)), .d (.int more)] ∧ M = bagO b :: R ∧ b.Good ∧ HouseOk h ∧ 0 < pool.length ∧ pool.length < 1000 ∧ 0 ≤ more ∧ more ≤ 9 ∧
  ∀ (t : Tab) (b' : Bag), TabOk h pool t → b'.Good → Φ (.d (tabD t)) (bagO b' :: R)
def deedS : ZSp := fun ws M Φ => ∃ (b : Bag) (R : MS) (h : List HRow) (pool : List Int) (most : Int), ws = [.m 0, .d (houseD h), .d (.list (pool.map .int)), .d (.int most)] ∧ M = bagO b :: R ∧ b.Good ∧ HouseOk h ∧ 0 < pool.length ∧ pool.length < 1000 ∧ 1 ≤ most ∧ most ≤ 900 ∧
  ∀ (d : Deed) (b' : Bag), DeedOk (h.map (·.name)) pool d → b'.Good → Φ (.d (deedD d)) (bagO b' :: R)
def scriptS : ZSp := fun ws M Φ => ∃ (b : Bag) (R : MS) (h : List HRow) (pool : List Int) (many most : Int), ws = [.m 0, .d (houseD h), .d (.list (pool.map .int)), .d (.int many), .d (.int most)] ∧ M = bagO b :: R ∧ b.Good ∧ HouseOk h ∧ 0 < pool.length ∧ pool.length < 1000 ∧ 0 ≤ many ∧ many ≤ 40 ∧ 1 ≤ most ∧ most ≤ 900 ∧
  ∀ (ds : List Deed) (b' : Bag), (ds.length : Int) ≤ many → (∀ d ∈ ds, DeedOk (h.map (·.name)) pool d) → b'.Good → Φ (.d (scriptD ds)) (bagO b' :: R)
end Z

/-! Z22: counts by name, what a deed does to them; promises of the plain defs. -/
namespace Z
open PySem PySem.Spec PyProof.Rows L2
section
variable {X : Cx} {a b : Expr} {Γ : GS} {M : MS} {Φ : W → MS → Prop}
theorem zc_eqS (h : ZE X a Γ M fun x M1 => ZE X b Γ M1 fun y M2 => ∃ i j : Str, x = .d (.str i) ∧ y = .d (.str j) ∧ Φ (.d (.bool (decide (i = j)))) M2) : ZC X .Eq a b Γ M Φ :=
  zc op_eq h fun F ι H M v u x y Q R rx ry ψ hQ => by
    obtain ⟨i, j, rfl, rfl, φ⟩ := ψ
    rw [At.str_ rx, At.str_ ry]
    refine ⟨rfl, hQ _ _ (Post.dat R (x := .bool (decide (i = j))) ?_ φ)⟩
    have e : decide (V.str i = V.str j) = decide (i = j) := by
      by_cases h : i = j
      · rw [decide_eq_true h, decide_eq_true (congrArg V.str h)]
      · rw [decide_eq_false h, decide_eq_false fun z => h (V.str.inj z)]
    rw [e]
    exact .bl _
theorem zc_neS (h : ZE X a Γ M fun x M1 => ZE X b Γ M1 fun y M2 => ∃ i j : Str, x = .d (.str i) ∧ y = .d (.str j) ∧ Φ (.d (.bool (!decide (i = j)))) M2) : ZC X .NotEq a b Γ M Φ :=
  zc op_ne h fun F ι H M v u x y Q R rx ry ψ hQ => by
    obtain ⟨i, j, rfl, rfl, φ⟩ := ψ
    rw [At.str_ rx, At.str_ ry]
    refine ⟨rfl, hQ _ _ (Post.dat R (x := .bool (!decide (i = j))) ?_ φ)⟩
    have e : decide (V.str i = V.str j) = decide (i = j) := by
      by_cases h : i = j
      · rw [decide_eq_true h, decide_eq_true (congrArg V.str h)]
      · rw [decide_eq_false h, decide_eq_false fun z => h (V.str.inj z)]
    rw [e]
    exact .bl _
theorem IxW.tupE {d x : PyData} {ds : List PyData} {i : Int} (e : d = .tuple ds) (h : atI ds i = some x) (φ : Φ (.d x) M) : IxW (.d d) (.d (.int i)) M Φ := .inl ⟨ds, i, x, .inr (by rw [e]), rfl, h, φ⟩
end
abbrev Cts := List (Str × Int)
def getA (cs : Cts) (a : Str) : Int := ((cs.find? fun p => decide (p.1 = a)).map (·.2)).getD 0
def setA (cs : Cts) (a : Str) (v : Int) : Cts := cs.map fun p => if p.1 = a then (p.1, v) else p
def encA (cs : Cts) : List (Key × W) := cs.map fun p => ((Sum.inr p.1 : Key), W.d (.int p.2))
theorem setA_keys (cs : Cts) (a : Str) (v : Int) : (setA cs a v).map (·.1) = cs.map (·.1) := by
  unfold setA
  rw [List.map_map]
  exact List.map_congr_left fun p _ => by
    show (if p.1 = a then (p.1, v) else p).1 = p.1
    split <;> rfl
theorem look_encA : ∀ {cs : Cts} {a : Str}, a ∈ cs.map (·.1) → lookK (encA cs) (.inr a) = some (.d (.int (getA cs a)))
  | [], a, h => by simp at h
  | p :: cs, a, h => by
    by_cases e : p.1 = a
    · subst e
      simp [lookK, encA, getA]
    · have h2 : a ∈ cs.map (·.1) := by
        rcases List.mem_cons.mp h with z | z
        · exact absurd z.symm e
        · exact z
      have ih := look_encA h2
      simp only [lookK, encA, getA, List.map_cons, List.find?_cons] at ih ⊢
      have e2 : decide ((Sum.inr p.1 : Key) = Sum.inr a) = false := decide_eq_false fun z => e (Sum.inr.inj z)
      rw [e2, decide_eq_false e]
      exact ih
theorem put_encA {cs : Cts} {a : Str} (v : Int) (h : a ∈ cs.map (·.1)) : putW (encA cs) (.inr a) (.d (.int v)) = encA (setA cs a v) := by
  have e : ((encA cs).any fun kv => decide (kv.1 = Sum.inr a)) = true := by
    rw [List.any_eq_true]
    obtain ⟨p, hp, rfl⟩ := List.mem_map.mp h
    exact ⟨_, List.mem_map.mpr ⟨p, hp, rfl⟩, by simp⟩
  unfold putW
  rw [e, if_pos rfl]
  unfold encA setA
  rw [List.map_map, List.map_map]
  refine List.map_congr_left fun p _ => ?_
  show (if (Sum.inr p.1 : Key) = Sum.inr a then _ else _) = ((Sum.inr (if p.1 = a then (p.1, v) else p).1 : Key), W.d (.int (if p.1 = a then (p.1, v) else p).2))
  by_cases e : p.1 = a
  · rw [if_pos (congrArg Sum.inr e), if_pos e]
  · rw [if_neg (fun z => e (Sum.inr.inj z)), if_neg e]
theorem getA_set {cs : Cts} {a b : Str} (v : Int) (h : a ∈ cs.map (·.1)) : getA (setA cs a v) b = if b = a then v else getA cs b := by
  induction cs with
  | nil => simp at h
  | cons p cs ih =>
    unfold getA setA at ih ⊢
    rw [List.map_cons, List.find?_cons, List.find?_cons]
    by_cases e : p.1 = a
    · rw [if_pos e]
      by_cases f : b = a
      · subst f
        simp [e]
      · have n1 : decide (p.1 = b) = false := decide_eq_false fun z => f (z.symm.trans e)
        rw [if_neg f]
        simp only [n1]
        have same : ∀ cs : Cts, ((cs.map fun p => if p.1 = a then (p.1, v) else p).find? fun p => decide (p.1 = b)) = cs.find? fun p => decide (p.1 = b) := by
          intro cs
          induction cs with
          | nil => rfl
          | cons q cs ih2 =>
            rw [List.map_cons, List.find?_cons, List.find?_cons, ih2]
            by_cases g : q.1 = a
            · rw [if_pos g]
              have n2 : decide (q.1 = b) = false := decide_eq_false fun z => f (z.symm.trans g)
              simp only [n2]
            · rw [if_neg g]
        rw [same]
    · rw [if_neg e]
      have h2 : a ∈ cs.map (·.1) := by
        rcases List.mem_cons.mp h with z | z
        · exact absurd z.symm e
        · exact z
      by_cases g : p.1 = b
      · have n : b ≠ a := fun z => e (g.trans z)
        simp [g, n]
      · simp only [decide_eq_false g]
        exact ih h2
def stepA (num : Int) (cs : Cts) : Deed → Cts
  | .come a n => setA cs a (getA cs a + if decide (num ≤ n) = true then 1 else 0)
  | .go a k => if k ≤ getA cs a then setA cs a (getA cs a - 1) else cs
  | .keep a k => setA cs a (if k < getA cs a then k else getA cs a)
  | .move a k b => if k ≤ getA cs a then setA (setA cs a (getA cs a - 1)) b (getA (setA cs a (getA cs a - 1)) b + 1) else cs
  | .merge a b => setA (setA cs b (getA cs b + getA cs a)) a 0
def runA (num : Int) (cs : Cts) (ds : List Deed) : Cts := ds.foldl (stepA num) cs
theorem stepA_keys (num : Int) (cs : Cts) (d : Deed) : (stepA num cs d).map (·.1) = cs.map (·.1) := by
  cases d with
  | come a n => exact setA_keys ..
  | go a k =>
    show (if k ≤ getA cs a then setA cs a (getA cs a - 1) else cs).map (·.1) = _
    split
    · exact setA_keys ..
    · rfl
  | keep a k => exact setA_keys ..
  | move a k b =>
    show (if k ≤ getA cs a then setA (setA cs a (getA cs a - 1)) b (getA (setA cs a (getA cs a - 1)) b + 1) else cs).map (·.1) = _
    split
    · rw [setA_keys, setA_keys]
    · rfl
  | merge a b =>
    show (setA (setA cs b (getA cs b + getA cs a)) a 0).map (·.1) = _
    rw [setA_keys, setA_keys]
theorem runA_keys (num : Int) : ∀ (ds : List Deed) (cs : Cts), (runA num cs ds).map (·.1) = cs.map (·.1)
  | [], _ => rfl
  | d :: ds, cs => (runA_keys num ds _).trans (stepA_keys num cs d)
/-- the names that a deed speaks of -/
def InN (names : List Str) : Deed → Prop
  | .come a _ => a ∈ names
  | .go a _ => a ∈ names
  | .keep a _ => a ∈ names
  | .move a _ b => a ∈ names ∧ b ∈ names ∧ a ≠ b
  | .merge a b => a ∈ names ∧ b ∈ names ∧ a ≠ b
theorem DeedOk.inN {names : List Str} {pool : List Int} {d : Deed} (h : DeedOk names pool d) : InN names d := by
  cases d with
  | come a n => exact h.1
  | go a k => exact h.1
  | keep a k => exact h.1
  | move a k b => exact ⟨h.1, h.2.2.2.1, h.2.2.2.2⟩
  | merge a b => exact h
def afterS : ZSp := fun ws M Φ => ∃ (j : Nat) (cs : Cts) (d : Deed) (num : Int), ws = [.m j, .d (deedD d), .d (.int num)] ∧ M[j]? = some (.dic (encA cs)) ∧ InN (cs.map (·.1)) d ∧ cs.length < 1000 ∧
  Φ (.d .none) (M.set j (.dic (encA (stepA num cs d))))
def sorts (h : List HRow) : List Str := h.map (·.name)
def ctsD (cs : Cts) : PyData := .tuple (cs.map fun p => .int p.2)
/-- counts behind a script; the law's map tells the same -/
def behindS : ZSp := fun ws M Φ => ∃ (h : List HRow) (ds : List Deed) (num : Int) (c : List Int), ws = [.d (houseD h), .d (scriptD ds), .d (.int num), .d (.tuple (c.map .int))] ∧ HouseOk h ∧ c.length = h.length ∧ (∀ d ∈ ds, InN (sorts h) d) ∧ ds.length < 1000 ∧
  Φ (.d (ctsD (runA num (List.zip (sorts h) c) ds))) M
def withinS : ZSp := fun ws M Φ => ∃ (c c' : List Int), ws = [.d (.tuple (c.map .int)), .d (.tuple (c'.map .int))] ∧ c.length < 1000 ∧ (∀ p ∈ List.zip c c', p.1 ≤ p.2) ∧ Φ (.d (.bool true)) M
def getT (t : Tab) (a : Str) : List Int := ((t.find? fun p => decide (p.1 = a)).map (·.2)).getD []
def cnt (num : Int) (rows : List Int) : Int := ((rows.filter fun x => decide (num ≤ x)).length : Nat)
theorem look_tab : ∀ {t : Tab} {a : Str}, a ∈ t.map (·.1) → lookK (t.map fun p : Str × List Int => ((Sum.inr p.1 : Key), PyData.tuple (p.2.map .int))) (.inr a) = some (.tuple ((getT t a).map .int))
  | [], a, h => by simp at h
  | p :: cs, a, h => by
    by_cases e : p.1 = a
    · subst e
      simp [lookK, getT]
    · have h2 : a ∈ cs.map (·.1) := by
        rcases List.mem_cons.mp h with z | z
        · exact absurd z.symm e
        · exact z
      have ih := look_tab h2
      simp only [lookK, getT, List.map_cons, List.find?_cons] at ih ⊢
      have e2 : decide ((Sum.inr p.1 : Key) = Sum.inr a) = false := decide_eq_false fun z => e (Sum.inr.inj z)
      rw [e2, decide_eq_false e]
      exact ih
theorem pairs_ints (c c' : List Int) : pairsD (c.map .int) (c'.map .int) = (List.zip c c').map fun p : Int × Int => .tuple [.int p.1, .int p.2] := by
  unfold pairsD
  induction c generalizing c' with
  | nil => rfl
  | cons x c ih =>
    cases c' with
    | nil => rfl
    | cons y c' => simp only [List.map_cons, List.zipWith_cons_cons, List.zip_cons_cons, ih c']
theorem getT_len {t : Tab} {a : Str} (h : a ∈ t.map (·.1)) (hl : ∀ p ∈ t, p.2.length < 4000000) : (getT t a).length < 4000000 := by
  unfold getT
  cases e : t.find? fun p => decide (p.1 = a) with
  | none => decide
  | some p => exact hl p (List.mem_of_find?_eq_some e)
theorem cnt_filter (num : Int) (rows : List Int) : rows.filterMap (fun n => if decide (num ≤ n) = true then some (PyData.int n) else none) = (rows.filter fun x => decide (num ≤ x)).map .int := by
  induction rows with
  | nil => rfl
  | cons x r ih =>
    rw [List.filterMap_cons, List.filter_cons]
    by_cases e : num ≤ x
    · simp only [decide_eq_true e, if_true, List.map_cons, ih]
    · simp only [decide_eq_false e, Bool.false_eq_true, if_false, ih]
/-- how many rows of each sort reach the number -/
def atS : ZSp := fun ws M Φ => ∃ (h : List HRow) (t : Tab) (num : Int), ws = [.d (houseD h), .d (tabD t), .d (.int num)] ∧ HouseOk h ∧ (∀ r ∈ h, r.name ∈ t.map (·.1)) ∧ (∀ p ∈ t, p.2.length < 4000000) ∧
  Φ (.d (.tuple (h.map fun r => .int (cnt num (getT t r.name))))) M
def comeN : Deed → Option Int
  | .come _ n => some n
  | _ => none
def comesOf (ds : List Deed) : List Int := ds.filterMap comeN
theorem comes_map (ds : List Deed) : ds.filterMap (fun d => (comeN d).map PyData.int) = (comesOf ds).map .int := by
  unfold comesOf
  rw [List.map_filterMap]
theorem ints_inj : ∀ {a b : List Int}, a.map (fun k => W.d (.int k)) = b.map (fun k => W.d (.int k)) → a = b
  | [], [], _ => rfl
  | [], _ :: _, h => by simp at h
  | _ :: _, [], h => by simp at h
  | x :: a, y :: b, h => by
    rw [List.map_cons, List.map_cons] at h
    injection h with h1 h2
    injection h1 with h1
    injection h1 with h1
    rw [h1, ints_inj h2]
theorem comes_len (ds : List Deed) : (comesOf ds).length ≤ ds.length := List.length_filterMap_le _ _
/-- a deed's word -/
theorem deed_word (d : Deed) : ∃ (wd : Str) (rest : List PyData), ((wd = "come" → ∃ a n, d = .come a n) ∧ (wd ≠ "come" → comeN d = none)) ∧ deedD d = .tuple (.str wd :: rest) := by
  cases d with
  | come a n => exact ⟨_, _, ⟨fun _ => ⟨a, n, rfl⟩, fun h => absurd rfl h⟩, rfl⟩
  | go a k => exact ⟨_, _, ⟨fun h => absurd h (by decide), fun _ => rfl⟩, rfl⟩
  | keep a k => exact ⟨_, _, ⟨fun h => absurd h (by decide), fun _ => rfl⟩, rfl⟩
  | move a k b => exact ⟨_, _, ⟨fun h => absurd h (by decide), fun _ => rfl⟩, rfl⟩
  | merge a b => exact ⟨_, _, ⟨fun h => absurd h (by decide), fun _ => rfl⟩, rfl⟩
/-- the numbers that come, rising -/
def marksS : ZSp := fun ws M Φ => ∃ (ds : List Deed), ws = [.d (scriptD ds)] ∧ ds.length < 60 ∧ RiseW (comesOf ds) fun ks => Φ (.d (.list (ks.map .int))) M
def moreS : ZSp := fun ws M Φ => ∃ (b : Bag) (R : MS) (c : List Int), ws = [.m 0, .d (.tuple (c.map .int))] ∧ M = bagO b :: R ∧ b.Good ∧ c.length < 1000 ∧
  ∀ (c' : List Int) (b' : Bag), c'.length = c.length → (∀ p ∈ List.zip c c', p.1 ≤ p.2 ∧ p.2 ≤ p.1 + 3) → b'.Good → Φ (.d (.tuple (c'.map .int))) (bagO b' :: R)
/-- what may be compared and shown -/
structure Plain (d : PyData) : Prop where
  sh : SeqAt.shaped d = true
  sw : d.showable = true
  dp : d.depth ≤ 60
  ln : d.shown.length ≤ sizeLine
  eq : PyData.eqv d d = true
def alikeS : ZSp := fun ws M Φ => ∃ d, ws = [.d d, .d d] ∧ Plain d ∧ Φ (.d (.bool true)) M
end Z

/-! Z23: small help for stores into a cell. -/
namespace Z
open PySem PySem.Spec PyProof.Rows L2
theorem cell_set {M : MS} {j : Nat} {x y : MO} (h : M[j]? = some y) : (M.set j x)[j]? = some x := List.getElem?_set_self (List.getElem?_eq_some_iff.mp h).1
theorem cell_same {M : MS} {j : Nat} {x : MO} (h : M[j]? = some x) : M.set j x = M := by
  obtain ⟨hj, e⟩ := List.getElem?_eq_some_iff.mp h
  rw [← e]
  exact List.set_getElem_self hj
theorem encA_len (cs : Cts) : (encA cs).length = cs.length := List.length_map _
theorem setA_len (cs : Cts) (a : Str) (v : Int) : (setA cs a v).length = cs.length := List.length_map _
theorem setA_mem {cs : Cts} {a b : Str} {v : Int} (h : b ∈ cs.map (·.1)) : b ∈ (setA cs a v).map (·.1) := by rw [setA_keys]; exact h
end Z

/-! Z24: counts as a dict, counts as a list. -/
namespace Z
open PySem PySem.Spec PyProof.Rows L2
theorem zip_enc : ∀ (ks : List Str) (c : List Int), List.zip (keysS ks) ((c.map PyData.int).map W.d) = encA (List.zip ks c)
  | [], _ => by simp [encA]
  | _ :: _, [] => by simp [encA]
  | k :: ks, x :: c => by
    have ih := zip_enc ks c
    simp only [keysS, encA, List.map_cons, List.zip_cons_cons] at ih ⊢
    rw [ih]
theorem zip_keys {ks : List Str} {c : List Int} (h : c.length = ks.length) : (List.zip ks c).map (·.1) = ks := List.map_fst_zip (by omega)
theorem runA_snoc (num : Int) (cs : Cts) (ds : List Deed) (d : Deed) : runA num cs (ds ++ [d]) = stepA num (runA num cs ds) d := by
  unfold runA
  rw [List.foldl_append]
  rfl
theorem runA_len (num : Int) (cs : Cts) (ds : List Deed) : (runA num cs ds).length = cs.length := by
  have := congrArg List.length (runA_keys num ds cs)
  rwa [List.length_map, List.length_map] at this
theorem getA_head {p : Str × Int} {cs : Cts} : getA (p :: cs) p.1 = p.2 := by simp [getA]
theorem getA_tail {p : Str × Int} {cs : Cts} {a : Str} (h : p.1 ≠ a) : getA (p :: cs) a = getA cs a := by simp [getA, h]
theorem read_all : ∀ {cs : Cts}, (cs.map (·.1)).Nodup → (cs.map (·.1)).map (fun s => PyData.int (getA cs s)) = cs.map fun p => .int p.2
  | [], _ => rfl
  | p :: cs, h => by
    rw [List.map_cons, List.nodup_cons] at h
    rw [List.map_cons, List.map_cons, List.map_cons, getA_head]
    congr 1
    rw [← read_all h.2]
    refine List.map_congr_left fun s hs => ?_
    rw [getA_tail fun z => h.1 (z ▸ hs)]
def lstA (cs : Cts) : List W := cs.map fun p => .d (.int p.2)
theorem lst_zip : ∀ {ks : List Str} {c : List Int}, c.length = ks.length → (c.map PyData.int).map W.d = lstA (List.zip ks c)
  | [], [], _ => rfl
  | [], _ :: _, h => by simp at h
  | _ :: _, [], h => by simp at h
  | k :: ks, x :: c, h => by
    have ih := lst_zip (ks := ks) (c := c) (by simpa using h)
    simp only [lstA, List.map_cons, List.zip_cons_cons] at ih ⊢
    rw [ih]
theorem idx_of : ∀ {ks : List Str} {a : Str}, a ∈ ks → ∃ i : Nat, ks[i]? = some a ∧ ∀ m z, m < i → ks[m]? = some z → z ≠ a
  | [], a, h => by simp at h
  | k :: ks, a, h => by
    by_cases e : k = a
    · exact ⟨0, by simp [e], fun m z hm => absurd hm (Nat.not_lt_zero m)⟩
    · have h2 : a ∈ ks := by
        rcases List.mem_cons.mp h with z | z
        · exact absurd z.symm e
        · exact z
      obtain ⟨i, h1, h3⟩ := idx_of h2
      refine ⟨i + 1, by simpa using h1, fun m z hm hz => ?_⟩
      cases m with
      | zero => simp at hz; rw [← hz]; exact e
      | succ m => exact h3 m z (by omega) (by simpa using hz)
theorem getA_at : ∀ {cs : Cts} {a : Str} {i : Nat}, (cs.map (·.1)).Nodup → (cs.map (·.1))[i]? = some a → ∃ p, cs[i]? = some p ∧ p.1 = a ∧ p.2 = getA cs a
  | [], a, i, _, h => by simp at h
  | p :: cs, a, 0, _, h => by
    simp at h
    subst h
    exact ⟨p, rfl, rfl, getA_head.symm⟩
  | p :: cs, a, i + 1, nd, h => by
    rw [List.map_cons, List.nodup_cons] at nd
    have h2 : (cs.map (·.1))[i]? = some a := by simpa using h
    obtain ⟨q, e1, e2, e3⟩ := getA_at nd.2 h2
    have ne : p.1 ≠ a := fun z => nd.1 (z ▸ List.mem_of_getElem? h2)
    exact ⟨q, by simpa using e1, e2, by rw [getA_tail ne]; exact e3⟩
theorem at_lst {cs : Cts} {a : Str} {i : Nat} (nd : (cs.map (·.1)).Nodup) (h : (cs.map (·.1))[i]? = some a) : atI (lstA cs) (i : Int) = some (.d (.int (getA cs a))) := by
  obtain ⟨p, e1, _, e3⟩ := getA_at nd h
  refine atI_nat ?_
  unfold lstA
  rw [List.getElem?_map, e1, ← e3]
  rfl
theorem ix_lst {cs : Cts} {a : Str} {i : Nat} (h : (cs.map (·.1))[i]? = some a) : ixN (lstA cs).length (i : Int) = some i := by
  have := (List.getElem?_eq_some_iff.mp h).1
  rw [List.length_map] at this
  have hl : i < (lstA cs).length := by unfold lstA; rw [List.length_map]; exact this
  unfold ixN
  simp
  omega
theorem set_lst : ∀ {cs : Cts} {a : Str} {i : Nat} (v : Int), (cs.map (·.1)).Nodup → (cs.map (·.1))[i]? = some a → (lstA cs).set i (.d (.int v)) = lstA (setA cs a v)
  | [], a, i, v, _, h => by simp at h
  | p :: cs, a, 0, v, nd, h => by
    simp at h
    subst h
    rw [List.map_cons, List.nodup_cons] at nd
    have e : setA cs p.1 v = cs := by
      unfold setA
      refine (List.map_congr_left fun q hq => ?_).trans (List.map_id cs)
      rw [if_neg fun z => nd.1 (by rw [← z]; exact List.mem_map.mpr ⟨q, hq, rfl⟩)]
      rfl
    show W.d (.int v) :: lstA cs = lstA ((if p.1 = p.1 then (p.1, v) else p) :: setA cs p.1 v)
    rw [e, if_pos rfl]
    rfl
  | p :: cs, a, i + 1, v, nd, h => by
    rw [List.map_cons, List.nodup_cons] at nd
    have h2 : (cs.map (·.1))[i]? = some a := by simpa using h
    have ne : p.1 ≠ a := fun z => nd.1 (z ▸ List.mem_of_getElem? h2)
    show W.d (.int p.2) :: (lstA cs).set i (.d (.int v)) = lstA ((if p.1 = a then (p.1, v) else p) :: setA cs a v)
    rw [if_neg ne, set_lst v nd.2 h2]
    rfl
theorem flat_names (ks : List Str) : (ks.map PyData.str).all flatD = true := by
  rw [List.all_eq_true]
  intro d hd
  obtain ⟨x, _, rfl⟩ := List.mem_map.mp hd
  rfl
theorem str_same (a : Str) : PyData.eqv (.str a) (.str a) = true := by simp [PyData.eqv]
theorem before_of {ks : List Str} {a : Str} {i : Nat} (h : ∀ m z, m < i → ks[m]? = some z → z ≠ a) (m : Nat) (z : PyData) (hm : m < i) (hz : (ks.map PyData.str)[m]? = some z) : PyData.eqv z (.str a) = false := by
  obtain ⟨x, hx, rfl⟩ := get_map hz
  have := h m x hm hx
  simpa [PyData.eqv] using this
end Z

/-! Z25: sorted(xs), xs + ys, xs[i:j] of cells; the answer a new cell where it will be changed. -/
namespace Z
open PySem PySem.Spec PyProof.Rows L2
section
variable {X : Cx} {a b e : Expr} {Γ : GS} {M : MS} {Φ : W → MS → Prop} {pos p : Pos}
theorem new_cell {F H : Hp} {ι : List Addr} {Q : VK} {vs : List V} {ds : List PyData} (R : Rep F H ι M) (r : AtAll F vs ds) (φ : Φ (.m M.length) (M ++ [.lst (ds.map .d)])) (hQ : ∀ z H', Post F ι H Φ z H' → Q z H') (q : Addr) (n : H q = none) : Q (.ref q) (upd H q (.lst vs)) := by
  obtain ⟨E, R'⟩ := R.new (o := .lst vs) (mo := .lst (ds.map .d)) n ⟨vs, rfl, RWs.of r⟩
  exact hQ _ _ (Post.ext E (Post.ret R' (RW.m (by rw [← R.len, List.getElem?_append_right (Nat.le_refl _)]; simp)) φ))
theorem zk_sortedM (hm : X.mg "sorted" = none) (h : ZE X e Γ M fun y M1 => ∃ ns : List Int, AllW y M1 (ns.map .int) ∧ (∀ ds, y ≠ .d (.tuple ds)) ∧ Φ (.m M1.length) (M1 ++ [.lst (((sortI ns).map PyData.int).map .d)])) (hg : Gl X "sorted" := by rfl) (sy : CSyn X e [] pos := by exact ⟨by rfl, by rfl⟩) :
    ZE X (.Call (.Name "sorted" p) [e] [] pos) Γ M Φ :=
  zb1 cr_sortedI hm bt_sorted hg h (fun F ι H M v y Q R rv ψ hQ => by
    obtain ⟨ns, hy, nt, φ⟩ := ψ
    obtain ⟨c, vs, rfl, hc, r⟩ := hy.at R rv
    have h1 := hc.resolve_right fun z => nt _ z.2
    rw [r.ints] at h1
    refine ⟨c, ns, rfl, .of h1, fun ns' q pm pw n => ?_⟩
    rw [sortI_of pm pw]
    exact new_cell R .of_ints φ hQ q n) sy
/-- a list, as data or as a cell of data -/
def LstW (y : W) (M : MS) (ds : List PyData) : Prop := y = .d (.list ds) ∨ ∃ j, y = .m j ∧ M[j]? = some (.lst (ds.map .d))
theorem LstW.at {F H : Hp} {ι : List Addr} {y : W} {v : V} {ds : List PyData} (R : Rep F H ι M) (r : RW F ι v y) (h : LstW y M ds) : ∃ c vs, v = .ref c ∧ H c = some (.lst vs) ∧ AtAll F vs ds := by
  rcases h with rfl | ⟨j, rfl, hj⟩
  · obtain ⟨c, vs, rfl, f, q⟩ := At.lst_ r
    exact ⟨c, vs, rfl, R.sub _ _ f, q⟩
  · obtain ⟨c, vs, rfl, _, h1, q⟩ := cell_at R r hj
    exact ⟨c, vs, rfl, h1, RWs.dat q⟩
theorem ze_addL (h : ZE X a Γ M fun x M1 => ZE X b Γ M1 fun y M2 => ∃ xs ys, LstW x M2 xs ∧ LstW y M2 ys ∧ xs.length + ys.length ≤ sizeLine ∧ Φ (.d (.list (xs ++ ys))) M2) : ZE X (.BinOp a .Add b pos) Γ M Φ :=
  z2 (pe_op op_cat pe_w pe_w) h fun F ι H M v u x y Q R rx ry ψ hQ => by
    obtain ⟨xs, ys, hx, hy, z, φ⟩ := ψ
    obtain ⟨c, vs, rfl, h1, r1⟩ := hx.at R rx
    obtain ⟨d, us, rfl, h2, r2⟩ := hy.at R ry
    exact ⟨c, d, vs, us, rfl, rfl, h1, h2, by rw [r1.len, r2.len]; exact z, lay_lst R (r1.app r2) φ hQ⟩
theorem ze_slM {lo hi : Option Expr} {p2 : Pos} (h : ZE X a Γ M fun x M1 => ZP X lo Γ M1 fun l M2 => ZP X hi Γ M2 fun u M3 => ∃ ds, LstW x M3 ds ∧ Φ (.m M3.length) (M3 ++ [.lst ((cutD ds l u).map .d)])) : ZE X (.Subscript a (.Slice lo hi none p2) pos) Γ M Φ := fun F ι σ H R S => by
  refine w_e (pe_slice sl_list pe_w po_w po_w) ((h F ι σ H R S).mono ?_)
  rintro v H1 ⟨F1, ι1, M1, x, E1, R1, rx, hl⟩
  intro pins s I
  obtain ⟨t1, p1, q1⟩ := hl F1 ι1 σ H1 R1 (E1.slots S)
  refine thn (p1.run pins s σ H1 _ I q1) ?_
  rintro u1 s1 ⟨o1, H2, I2, ip1, F2, ι2, M2, E2, R2, hu⟩
  refine ⟨o1, H2, I2, ip1, fun pins s I => ?_⟩
  obtain ⟨t2, p2, q2⟩ := hu F2 ι2 σ H2 R2 ((E1.trans E2).slots S)
  refine thn (p2.run pins s σ H2 _ I q2) ?_
  rintro u2 s2 ⟨o2, H3, I3, ip2, F3, ι3, M3, E3, R3, ds, hS, φ⟩
  refine ⟨o2, H3, I3, ip2, ?_⟩
  have rx3 := (E2.trans E3).rw rx
  obtain ⟨c, vs, rfl, h1, r⟩ := hS.at R3 rx3
  exact ⟨c, vs, rfl, .of h1, new_cell R3 (cut_rel r o1 o2) φ fun z H' q => Post.ext ((E1.trans E2).trans E3) q⟩
end
/-! ### the rows of each sort, each in a cell of its own -/
/-- what the deeds do to the rows -/
def setT (t : Tab) (a : Str) (v : List Int) : Tab := t.map fun p => if p.1 = a then (p.1, v) else p
def stepT (t : Tab) : Deed → Tab
  | .come a n => setT t a (sortI (getT t a ++ [n]))
  | .go a k => if k ≤ ((getT t a).length : Int) then setT t a ((getT t a).eraseIdx (((getT t a).length : Int) - k).toNat) else t
  | .keep a k => setT t a ((getT t a).drop (((getT t a).length : Int) - k).toNat)
  | .move a k b => if k ≤ ((getT t a).length : Int) then
      (let n := (getT t a).getD (((getT t a).length : Int) - k).toNat 0
       let t1 := setT t a ((getT t a).eraseIdx (((getT t a).length : Int) - k).toNat)
       setT t1 b (sortI (getT t1 b ++ [n]))) else t
  | .merge a b => setT (setT t b (sortI (getT t b ++ getT t a))) a []
def runT (t : Tab) (ds : List Deed) : Tab := ds.foldl stepT t
end Z

/-! Z26: a dict whose values are lists, each in a cell of its own. -/
namespace Z
open PySem PySem.Spec PyProof.Rows L2
theorem setT_keys (t : Tab) (a : Str) (v : List Int) : (setT t a v).map (·.1) = t.map (·.1) := by
  unfold setT
  rw [List.map_map]
  exact List.map_congr_left fun p _ => by
    show (if p.1 = a then (p.1, v) else p).1 = p.1
    split <;> rfl
theorem getT_head {p : Str × List Int} {t : Tab} : getT (p :: t) p.1 = p.2 := by simp [getT]
theorem getT_tail {p : Str × List Int} {t : Tab} {a : Str} (h : p.1 ≠ a) : getT (p :: t) a = getT t a := by simp [getT, h]
theorem getT_set : ∀ {t : Tab} {a b : Str} (v : List Int), a ∈ t.map (·.1) → getT (setT t a v) b = if b = a then v else getT t b
  | [], a, b, v, h => by simp at h
  | p :: t, a, b, v, h => by
    have e0 : setT (p :: t) a v = (if p.1 = a then (p.1, v) else p) :: setT t a v := rfl
    rw [e0]
    by_cases e : p.1 = a
    · rw [if_pos e]
      by_cases f : b = a
      · rw [if_pos f, f, ← e]
        exact getT_head (p := (p.1, v))
      · rw [if_neg f]
        have n : p.1 ≠ b := fun z => f (z.symm.trans e)
        rw [getT_tail (p := (p.1, v)) n, getT_tail n]
        by_cases g : a ∈ t.map (·.1)
        · rw [getT_set v g, if_neg f]
        · congr 1
          unfold setT
          refine (List.map_congr_left fun q hq => ?_).trans (List.map_id t)
          rw [if_neg fun z => g (by rw [← z]; exact List.mem_map.mpr ⟨q, hq, rfl⟩)]
          rfl
    · rw [if_neg e]
      have h2 : a ∈ t.map (·.1) := by
        rcases List.mem_cons.mp h with z | z
        · exact absurd z.symm e
        · exact z
      by_cases g : p.1 = b
      · subst g
        rw [getT_head, getT_head, if_neg e]
      · rw [getT_tail g, getT_tail g, getT_set v h2]
def encF (ks : List Str) (f : Str → Nat) : List (Key × W) := ks.map fun x => ((Sum.inr x : Key), W.m (f x))
def rowsW (v : List Int) : List W := (v.map PyData.int).map W.d
structure TabM (A M : MS) (t : Tab) (f : Str → Nat) (j : Nat) : Prop where
  pre : ∃ J, M = A ++ J
  aj : A.length ≤ j
  dic : M[j]? = some (.dic (encF (t.map (·.1)) f))
  inj : ∀ a ∈ t.map (·.1), ∀ b ∈ t.map (·.1), f a = f b → a = b
  cell : ∀ a ∈ t.map (·.1), (A.length ≤ f a ∧ f a ≠ j) ∧ M[f a]? = some (.lst (rowsW (getT t a)))
theorem look_encF (f : Str → Nat) : ∀ {ks : List Str} {a : Str}, a ∈ ks → lookK (encF ks f) (.inr a) = some (.m (f a))
  | [], a, h => by simp at h
  | k :: ks, a, h => by
    by_cases e : k = a
    · subst e
      simp [lookK, encF]
    · have h2 : a ∈ ks := by
        rcases List.mem_cons.mp h with z | z
        · exact absurd z.symm e
        · exact z
      have ih := look_encF f h2
      simp only [lookK, encF, List.map_cons, List.find?_cons] at ih ⊢
      rw [decide_eq_false fun z => e (Sum.inr.inj z)]
      exact ih
theorem put_encF {ks : List Str} {a : Str} {f : Str → Nat} {n : Nat} (h : a ∈ ks) : putW (encF ks f) (.inr a) (.m n) = encF ks (fun x => if x = a then n else f x) := by
  have e : ((encF ks f).any fun kv => decide (kv.1 = Sum.inr a)) = true := by
    rw [List.any_eq_true]
    exact ⟨_, List.mem_map.mpr ⟨a, h, rfl⟩, by simp⟩
  unfold putW
  rw [e, if_pos rfl]
  unfold encF
  rw [List.map_map]
  refine List.map_congr_left fun x _ => ?_
  show (if (Sum.inr x : Key) = Sum.inr a then _ else _) = ((Sum.inr x : Key), W.m (if x = a then n else f x))
  by_cases g : x = a
  · rw [if_pos (congrArg Sum.inr g), if_pos g]
  · rw [if_neg (fun z => g (Sum.inr.inj z)), if_neg g]
theorem TabM.more {A M : MS} {t : Tab} {f : Str → Nat} {j : Nat} (T : TabM A M t f j) (J : MS) : TabM A (M ++ J) t f j := by
  have up : ∀ {i : Nat} {x : MO}, M[i]? = some x → (M ++ J)[i]? = some x := fun h => by
    rw [List.getElem?_append_left (List.getElem?_eq_some_iff.mp h).1]; exact h
  obtain ⟨J0, e⟩ := T.pre
  exact ⟨⟨J0 ++ J, by rw [e, List.append_assoc]⟩, T.aj, up T.dic, T.inj, fun a ha => ⟨(T.cell a ha).1, up (T.cell a ha).2⟩⟩
theorem pre_set {A M : MS} {i : Nat} {x : MO} (h : ∃ J, M = A ++ J) (hi : A.length ≤ i) : ∃ J, M.set i x = A ++ J := by
  obtain ⟨J, rfl⟩ := h
  exact ⟨J.set (i - A.length) x, by rw [List.set_append_right _ _ hi]⟩
/-- a sort's rows are a new cell -/
theorem TabM.put {A M : MS} {t : Tab} {f : Str → Nat} {a : Str} {j : Nat} (T : TabM A M t f j) (ha : a ∈ t.map (·.1)) (v : List Int) :
    TabM A ((M ++ [MO.lst (rowsW v)]).set j (MO.dic (putW (encF (t.map (·.1)) f) (.inr a) (.m M.length)))) (setT t a v) (fun x => if x = a then M.length else f x) j := by
  have hA : j < M.length := (List.getElem?_eq_some_iff.mp T.dic).1
  have hf : ∀ b ∈ t.map (·.1), f b < M.length := fun b hb => (List.getElem?_eq_some_iff.mp (T.cell b hb).2).1
  refine ⟨pre_set (T.more _).pre T.aj, T.aj, ?_, ?_, ?_⟩
  · rw [List.getElem?_set_self (by rw [List.length_append]; omega), put_encF ha, setT_keys]
  · rw [setT_keys]
    intro b hb c hc e
    by_cases g : b = a
    · by_cases k : c = a
      · rw [g, k]
      · simp only [g, if_true, if_neg k] at e
        exact absurd (hf c hc) (by omega)
    · by_cases k : c = a
      · simp only [k, if_true, if_neg g] at e
        exact absurd (hf b hb) (by omega)
      · simp only [if_neg g, if_neg k] at e
        exact T.inj b hb c hc e
  · rw [setT_keys]
    intro b hb
    by_cases g : b = a
    · subst g
      simp only [if_true]
      have := T.aj
      refine ⟨⟨by omega, by omega⟩, ?_⟩
      rw [List.getElem?_set_ne (by omega), getT_set v ha, if_pos rfl]
      exact at_end M _
    · simp only [if_neg g]
      obtain ⟨h1, h2⟩ := T.cell b hb
      refine ⟨h1, ?_⟩
      rw [List.getElem?_set_ne (Ne.symm h1.2), getT_set v ha, if_neg g, List.getElem?_append_left (hf b hb)]
      exact h2
/-- a sort's rows are changed in their cell -/
theorem TabM.pop {A M : MS} {t : Tab} {f : Str → Nat} {a : Str} {j : Nat} (T : TabM A M t f j) (ha : a ∈ t.map (·.1)) (v : List Int) : TabM A (M.set (f a) (.lst (rowsW v))) (setT t a v) f j := by
  have ⟨h1, h2⟩ := T.cell a ha
  refine ⟨pre_set T.pre h1.1, T.aj, ?_, by rw [setT_keys]; exact T.inj, ?_⟩
  · rw [List.getElem?_set_ne h1.2, setT_keys]
    exact T.dic
  · rw [setT_keys]
    intro b hb
    obtain ⟨h3, h4⟩ := T.cell b hb
    refine ⟨h3, ?_⟩
    by_cases g : b = a
    · subst g
      rw [cell_set h2, getT_set v ha, if_pos rfl]
    · rw [List.getElem?_set_ne (fun z => g (T.inj b hb a ha z.symm)), getT_set v ha, if_neg g]
      exact h4
theorem stepT_keys (t : Tab) (d : Deed) : (stepT t d).map (·.1) = t.map (·.1) := by
  cases d with
  | come a n => exact setT_keys ..
  | go a k =>
    show (if _ then _ else t : Tab).map (·.1) = _
    split
    · exact setT_keys ..
    · rfl
  | keep a k => exact setT_keys ..
  | move a k b =>
    show (if _ then _ else t : Tab).map (·.1) = _
    split
    · rw [setT_keys, setT_keys]
    · rfl
  | merge a b =>
    show (setT (setT t b _) a _).map (·.1) = _
    rw [setT_keys, setT_keys]
theorem runT_keys : ∀ (ds : List Deed) (t : Tab), (runT t ds).map (·.1) = t.map (·.1)
  | [], _ => rfl
  | d :: ds, t => (runT_keys ds _).trans (stepT_keys t d)
/-- what do_deed promises: A the caller's cells, the table behind them -/
def doS : ZSp := fun ws M Φ => ∃ (A : MS) (t : Tab) (f : Str → Nat) (j : Nat) (d : Deed), ws = [.m j, .d (deedD d)] ∧ TabM A M t f j ∧ InN (t.map (·.1)) d ∧ (∀ p ∈ t, p.2.length < 4000000) ∧ t.length < 100 ∧ (∀ p ∈ t, p.2.length < 4000000) ∧
  (∀ a k, d = .keep a k → 0 ≤ k) ∧ (∀ a k, d = .go a k → 1 ≤ k) ∧ (∀ a k b, d = .move a k b → 1 ≤ k) ∧ ∀ M' f', TabM A M' (stepT t d) f' j → Φ (.d .none) M'
def doneS : ZSp := fun ws M Φ => ∃ (h : List HRow) (t : Tab) (ds : List Deed), ws = [.d (houseD h), .d (tabD t), .d (scriptD ds)] ∧ HouseOk h ∧ (t.map (·.1)).Perm (sorts h) ∧ (∀ p ∈ t, p.2.length ≤ 40) ∧ ds.length ≤ 16 ∧ (∀ d ∈ ds, ∃ pool, DeedOk (sorts h) pool d) ∧
  ∀ ks : List Str, ks.Perm (sorts h) → Φ (.d (tabD (ks.map fun a => (a, getT (runT (h.map fun r => (r.name, getT t r.name)) ds) a)))) M
end Z

/-! Z27: small help for rows. -/
namespace Z
open PySem PySem.Spec PyProof.Rows L2
theorem cut_drop {α : Type} (xs : List α) {n : Int} (h : 0 ≤ n) : cutD xs (some n) none = xs.drop n.toNat := by
  unfold cutD
  rw [sx h, HT.sIx_none]
  by_cases k : n.toNat ≤ xs.length
  · rw [Nat.min_eq_left k, List.take_of_length_le (by rw [List.length_drop]; exact Nat.le_refl _)]
  · rw [Nat.min_eq_right (by omega), List.drop_of_length_le (Nat.le_refl _), List.drop_of_length_le (by omega), List.take_nil]
theorem rowsW_len (v : List Int) : (rowsW v).length = v.length := by unfold rowsW; rw [List.length_map, List.length_map]
theorem rowsW_get {v : List Int} {i : Nat} (h : i < v.length) : (rowsW v)[i]? = some (.d (.int (v.getD i 0))) := by
  unfold rowsW
  rw [List.getElem?_map, List.getElem?_map, List.getElem?_eq_getElem h, List.getD_eq_getElem?_getD, List.getElem?_eq_getElem h]
  rfl
theorem rowsW_erase : ∀ (v : List Int) (i : Nat), (rowsW v).eraseIdx i = rowsW (v.eraseIdx i)
  | [], _ => rfl
  | _ :: _, 0 => rfl
  | x :: v, i + 1 => congrArg (W.d (.int x) :: ·) (rowsW_erase v i)
theorem getT_short {t : Tab} {a : Str} {n : Nat} (h : a ∈ t.map (·.1)) (hl : ∀ p ∈ t, p.2.length < n) : (getT t a).length < n := by
  unfold getT
  cases e : t.find? fun p => decide (p.1 = a) with
  | none =>
    obtain ⟨p, hp, rfl⟩ := List.mem_map.mp h
    have := List.find?_eq_none.mp e p hp
    simp at this
  | some p => exact hl p (List.mem_of_find?_eq_some e)
theorem encF_len (ks : List Str) (f : Str → Nat) : (encF ks f).length = ks.length := List.length_map _
theorem setT_mem {t : Tab} {a b : Str} {v : List Int} (h : b ∈ t.map (·.1)) : b ∈ (setT t a v).map (·.1) := by rw [setT_keys]; exact h
theorem setT_len (t : Tab) (a : Str) (v : List Int) : (setT t a v).length = t.length := List.length_map _
theorem ix_of {i : Int} {n : Nat} (h0 : 0 ≤ i) (h1 : i < n) : seqIndex? i n = some i.toNat := by
  have : ixN n i = some i.toNat := by
    unfold ixN
    rw [if_pos h0, if_pos h1]
  exact (ixN_seq this).1
end Z

/-! Z28: a dict of fresh lists, as done makes it; how long the rows may grow. -/
namespace Z
open PySem PySem.Spec PyProof.Rows L2
structure RowsM (A M : MS) (g : Str → List Int) (ks : List Str) (f : Str → Nat) : Prop where
  pre : ∃ J, M = A ++ J
  inj : ∀ a ∈ ks, ∀ b ∈ ks, f a = f b → a = b
  cell : ∀ a ∈ ks, A.length ≤ f a ∧ M[f a]? = some (.lst (rowsW (g a)))
theorem put_new {ks : List Str} {a : Str} {f : Str → Nat} {n : Nat} (h : a ∉ ks) : putW (encF ks f) (.inr a) (.m n) = encF (ks ++ [a]) (fun x => if x = a then n else f x) := by
  have e : ((encF ks f).any fun kv => decide (kv.1 = Sum.inr a)) = false := by
    rw [List.any_eq_false]
    intro kv hkv z
    obtain ⟨x, hx, rfl⟩ := List.mem_map.mp hkv
    exact h (Sum.inr.inj (of_decide_eq_true z) ▸ hx)
  unfold putW
  rw [e, if_neg Bool.false_ne_true]
  unfold encF
  rw [List.map_append]
  congr 1
  · refine List.map_congr_left fun x hx => ?_
    show (Sum.inr x, W.m (f x)) = ((Sum.inr x : Key), W.m (if x = a then n else f x))
    rw [if_neg fun z : x = a => h (z ▸ hx)]
  · simp
theorem RowsM.snoc {A M : MS} {g : Str → List Int} {ks : List Str} {f : Str → Nat} {a : Str} (R : RowsM A M g ks f) (h : a ∉ ks) : RowsM A (M ++ [MO.lst (rowsW (g a))]) g (ks ++ [a]) (fun x => if x = a then M.length else f x) := by
  have hf : ∀ b ∈ ks, f b < M.length := fun b hb => (List.getElem?_eq_some_iff.mp (R.cell b hb).2).1
  obtain ⟨J, eJ⟩ := R.pre
  have hA : A.length ≤ M.length := by rw [eJ, List.length_append]; omega
  refine ⟨⟨J ++ [MO.lst (rowsW (g a))], by rw [eJ, List.append_assoc]⟩, fun b hb c hc e => ?_, fun b hb => ?_⟩
  · rcases List.mem_append.mp hb with hb | hb
    · have nb : b ≠ a := fun z => h (z ▸ hb)
      rcases List.mem_append.mp hc with hc | hc
      · have nc : c ≠ a := fun z => h (z ▸ hc)
        simp only [if_neg nb, if_neg nc] at e
        exact R.inj b hb c hc e
      · have ec := List.mem_singleton.mp hc
        simp only [if_neg nb, ec, if_true] at e
        exact absurd (hf b hb) (by omega)
    · have eb := List.mem_singleton.mp hb
      rcases List.mem_append.mp hc with hc | hc
      · have nc : c ≠ a := fun z => h (z ▸ hc)
        simp only [eb, if_true, if_neg nc] at e
        exact absurd (hf c hc) (by omega)
      · rw [eb, List.mem_singleton.mp hc]
  · rcases List.mem_append.mp hb with hb | hb
    · have nb : b ≠ a := fun z => h (z ▸ hb)
      simp only [if_neg nb]
      refine ⟨(R.cell b hb).1, ?_⟩
      rw [List.getElem?_append_left (hf b hb)]
      exact (R.cell b hb).2
    · have eb := List.mem_singleton.mp hb
      subst eb
      simp only [if_true]
      exact ⟨hA, at_end M _⟩
/-- the dict is a cell behind its lists -/
theorem RowsM.tab {A M : MS} {t : Tab} {f : Str → Nat} {ks : List Str} {g : Str → List Int} (R : RowsM A M g ks f) (hk : t.map (·.1) = ks) (hg : ∀ a ∈ ks, getT t a = g a) : TabM A (M ++ [MO.dic (encF ks f)]) t f M.length := by
  obtain ⟨J, eJ⟩ := R.pre
  refine ⟨⟨J ++ [MO.dic (encF ks f)], by rw [eJ, List.append_assoc]⟩, by rw [eJ, List.length_append]; omega, by rw [hk]; exact at_end M _, by rw [hk]; exact R.inj, ?_⟩
  rw [hk]
  intro a ha
  have lt := (List.getElem?_eq_some_iff.mp (R.cell a ha).2).1
  refine ⟨⟨(R.cell a ha).1, Nat.ne_of_lt lt⟩, ?_⟩
  rw [List.getElem?_append_left lt, hg a ha]
  exact (R.cell a ha).2
theorem setT_bd {t : Tab} {a : Str} {v : List Int} {B : Nat} (h : ∀ p ∈ t, p.2.length ≤ B) (hv : v.length ≤ B) : ∀ p ∈ setT t a v, p.2.length ≤ B := fun p hp => by
  obtain ⟨q, hq, rfl⟩ := List.mem_map.mp hp
  split
  · exact hv
  · exact h q hq
theorem getT_bd {t : Tab} {a : Str} {B : Nat} (h : ∀ p ∈ t, p.2.length ≤ B) : (getT t a).length ≤ B := by
  unfold getT
  cases e : t.find? fun p => decide (p.1 = a) with
  | none => exact Nat.zero_le _
  | some p => exact h p (List.mem_of_find?_eq_some e)
theorem sortI_len (v : List Int) : (sortI v).length = v.length := (sortI_perm v).length_eq
theorem stepT_bd {t : Tab} {B : Nat} (h : ∀ p ∈ t, p.2.length ≤ B) (d : Deed) : ∀ p ∈ stepT t d, p.2.length ≤ 2 * B + 1 := by
  have h2 : ∀ p ∈ t, p.2.length ≤ 2 * B + 1 := fun p hp => by have := h p hp; omega
  have ga : ∀ a, (getT t a).length ≤ B := fun a => getT_bd h
  have er : ∀ (v : List Int) i, (v.eraseIdx i).length ≤ v.length := fun v i => List.length_eraseIdx_le v i
  cases d with
  | come a n => exact setT_bd h2 (by rw [sortI_len, List.length_append]; have := ga a; simp; omega)
  | go a k =>
    show ∀ p ∈ (if k ≤ ((getT t a).length : Int) then setT t a ((getT t a).eraseIdx (((getT t a).length : Int) - k).toNat) else t), p.2.length ≤ 2 * B + 1
    split
    · exact setT_bd h2 (by have := er (getT t a) (((getT t a).length : Int) - k).toNat; have := ga a; omega)
    · exact h2
  | keep a k => exact setT_bd h2 (by rw [List.length_drop]; have := ga a; omega)
  | move a k b =>
    by_cases hk : k ≤ ((getT t a).length : Int)
    rotate_left
    · have e : stepT t (.move a k b) = t := if_neg hk
      rw [e]
      exact h2
    have e : stepT t (.move a k b) = _ := if_pos hk
    rw [e]
    · have h3 : ∀ p ∈ setT t a ((getT t a).eraseIdx (((getT t a).length : Int) - k).toNat), p.2.length ≤ B := setT_bd h (by have := er (getT t a) (((getT t a).length : Int) - k).toNat; have := ga a; omega)
      exact setT_bd (fun p hp => by have := h3 p hp; omega) (by rw [sortI_len, List.length_append]; have := getT_bd (a := b) h3; simp; omega)
  | merge a b => exact setT_bd (setT_bd h2 (by rw [sortI_len, List.length_append]; have := ga a; have := ga b; omega)) (by simp)
theorem runT_snoc (t : Tab) (ds : List Deed) (d : Deed) : runT t (ds ++ [d]) = stepT (runT t ds) d := by
  unfold runT
  rw [List.foldl_append]
  rfl
theorem runT_bd {t : Tab} (h : ∀ p ∈ t, p.2.length ≤ 40) : ∀ (n : Nat) (ds : List Deed), ds.length = n → ∀ p ∈ runT t ds, p.2.length ≤ 41 * 2 ^ n - 1 := by
  intro n
  induction n with
  | zero =>
    intro ds e p hp
    rw [List.eq_nil_of_length_eq_zero e] at hp
    have := h p hp
    omega
  | succ n ih =>
    intro ds e p hp
    obtain ⟨ds', d, rfl⟩ : ∃ ds' d, ds = ds' ++ [d] := by
      have ne : ds ≠ [] := fun z => by rw [z] at e; simp at e
      exact ⟨ds.dropLast, ds.getLast ne, (List.dropLast_concat_getLast ne).symm⟩
    rw [runT_snoc] at hp
    have := stepT_bd (ih ds' (by rw [List.length_append] at e; simpa using e)) d p hp
    have pos : 1 ≤ 2 ^ n := Nat.one_le_two_pow
    rw [Nat.pow_succ]
    omega
end Z

/-! Z29: help for done. -/
namespace Z
open PySem PySem.Spec PyProof.Rows L2
theorem put_app {α : Type} {kvs : List (Key × α)} {k : Key} {v : α} (h : ∀ kv ∈ kvs, kv.1 ≠ k) : putW kvs k v = kvs ++ [(k, v)] := by
  have e : (kvs.any fun kv => decide (kv.1 = k)) = false := by
    rw [List.any_eq_false]
    exact fun kv hkv z => h kv hkv (of_decide_eq_true z)
  unfold putW
  rw [e, if_neg Bool.false_ne_true]
theorem take_fresh {ks : List Str} {i : Nat} {a : Str} (nd : ks.Nodup) (h : ks[i]? = some a) : a ∉ ks.take i := fun m => by
  have e : ks = ks.take i ++ ks.drop i := (List.take_append_drop i ks).symm
  rw [e, List.nodup_append] at nd
  obtain ⟨hi, hv⟩ := List.getElem?_eq_some_iff.mp h
  exact nd.2.2 a m a (by rw [List.drop_eq_getElem_cons hi, hv]; exact List.mem_cons_self) rfl
abbrev startT (h : List HRow) (t : Tab) : Tab := h.map fun r => (r.name, getT t r.name)
theorem startT_keys (h : List HRow) (t : Tab) : (startT h t).map (·.1) = sorts h := by
  unfold startT sorts
  rw [List.map_map]
  rfl
theorem startT_get : ∀ {h : List HRow} {t : Tab} {a : Str}, a ∈ sorts h → getT (startT h t) a = getT t a
  | [], t, a, m => by simp [sorts] at m
  | r :: h, t, a, m => by
    by_cases e : r.name = a
    · subst e
      exact getT_head (p := (r.name, getT t r.name)) (t := startT h t)
    · have m2 : a ∈ sorts h := by
        rcases List.mem_cons.mp m with z | z
        · exact absurd z.symm e
        · exact z
      exact (getT_tail (p := (r.name, getT t r.name)) (t := startT h t) e).trans (startT_get m2)
theorem startT_bd {h : List HRow} {t : Tab} {B : Nat} (hb : ∀ p ∈ t, p.2.length ≤ B) : ∀ p ∈ startT h t, p.2.length ≤ B := fun p hp => by
  obtain ⟨r, _, rfl⟩ := List.mem_map.mp hp
  exact getT_bd hb
end Z

/-! Z30: the plain law: counting before or behind the deeds. -/
namespace Z
open PySem PySem.Spec PyProof.Rows L2
theorem split_sorted (num : Int) : ∀ v : List Int, v.Pairwise (· ≤ ·) → ∃ lo hi, v = lo ++ hi ∧ (∀ x ∈ lo, x < num) ∧ ∀ x ∈ hi, num ≤ x
  | [], _ => ⟨[], [], rfl, by simp, by simp⟩
  | x :: v, h => by
    rw [List.pairwise_cons] at h
    by_cases e : num ≤ x
    · refine ⟨[], x :: v, rfl, by simp, fun y hy => ?_⟩
      rcases List.mem_cons.mp hy with rfl | hy
      · exact e
      · exact Int.le_trans e (h.1 y hy)
    · obtain ⟨lo, hi, rfl, h1, h2⟩ := split_sorted num v h.2
      refine ⟨x :: lo, hi, rfl, fun y hy => ?_, h2⟩
      rcases List.mem_cons.mp hy with rfl | hy
      · omega
      · exact h1 y hy
theorem cnt_app (num : Int) (a b : List Int) : cnt num (a ++ b) = cnt num a + cnt num b := by
  unfold cnt
  rw [List.filter_append, List.length_append]
  omega
theorem cnt_perm {num : Int} {a b : List Int} (p : a.Perm b) : cnt num a = cnt num b := by
  unfold cnt
  rw [(p.filter _).length_eq]
theorem cnt_lo {num : Int} {a : List Int} (h : ∀ x ∈ a, x < num) : cnt num a = 0 := by
  unfold cnt
  rw [List.filter_eq_nil_iff.mpr (fun x hx => by have := h x hx; simp; omega)]
  rfl
theorem cnt_hi {num : Int} {a : List Int} (h : ∀ x ∈ a, num ≤ x) : cnt num a = (a.length : Int) := by
  unfold cnt
  rw [List.filter_eq_self.mpr (fun x hx => by have := h x hx; simp; omega)]
theorem cnt_one (num n : Int) : cnt num [n] = if decide (num ≤ n) = true then 1 else 0 := by
  unfold cnt
  by_cases e : num ≤ n
  · simp [e]
  · simp [e]
theorem cnt_sort (num : Int) (v : List Int) : cnt num (sortI v) = cnt num v := cnt_perm (sortI_perm v)
/-- the last of rising rows -/
theorem cnt_drop {num : Int} {v : List Int} (h : v.Pairwise (· ≤ ·)) {k : Int} (hk : 0 ≤ k) : cnt num (v.drop ((v.length : Int) - k).toNat) = if k < cnt num v then k else cnt num v := by
  obtain ⟨lo, hi, rfl, h1, h2⟩ := split_sorted num v h
  rw [cnt_app num lo hi, cnt_lo h1, cnt_hi h2, List.drop_append, cnt_app, cnt_lo fun x hx => h1 x (List.mem_of_mem_drop hx), cnt_hi fun x hx => h2 x (List.mem_of_mem_drop hx), List.length_drop, List.length_append]
  split <;> omega
/-- one of rising rows is taken out -/
theorem cnt_pop {num : Int} {v : List Int} (h : v.Pairwise (· ≤ ·)) {k : Int} (k1 : 1 ≤ k) (k2 : k ≤ (v.length : Int)) :
    cnt num (v.eraseIdx ((v.length : Int) - k).toNat) = (if k ≤ cnt num v then cnt num v - 1 else cnt num v) ∧ (num ≤ v.getD ((v.length : Int) - k).toNat 0 ↔ k ≤ cnt num v) := by
  have hi : ((v.length : Int) - k).toNat < v.length := by omega
  have e1 : cnt num v = cnt num (v.eraseIdx ((v.length : Int) - k).toNat) + cnt num [v.getD ((v.length : Int) - k).toNat 0] := by
    rw [← cnt_app]
    refine cnt_perm ?_
    have p := List.perm_append_comm (l₁ := v.eraseIdx ((v.length : Int) - k).toNat) (l₂ := [v.getD ((v.length : Int) - k).toNat 0])
    refine List.Perm.trans ?_ p.symm
    rw [List.getD_eq_getElem?_getD, List.getElem?_eq_getElem hi]
    exact (erase_perm v _ _ (List.getElem?_eq_getElem hi)).symm
  have e2 : num ≤ v.getD ((v.length : Int) - k).toNat 0 ↔ k ≤ cnt num v := by
    obtain ⟨lo, hi', rfl, h1, h2⟩ := split_sorted num v h
    rw [cnt_app, cnt_lo h1, cnt_hi h2]
    clear e1
    generalize hm : (((lo ++ hi').length : Int) - k).toNat = m at hi ⊢
    rw [List.length_append] at hm hi k2
    rw [List.getD_eq_getElem?_getD, List.getElem?_append]
    by_cases c : m < lo.length
    · rw [if_pos c, List.getElem?_eq_getElem c]
      have := h1 _ (List.getElem_mem c)
      simp only [Option.getD_some]
      omega
    · have c2 : m - lo.length < hi'.length := by omega
      rw [if_neg c, List.getElem?_eq_getElem c2]
      have := h2 _ (List.getElem_mem c2)
      simp only [Option.getD_some]
      omega
  refine ⟨?_, e2⟩
  rw [cnt_one] at e1
  by_cases c : k ≤ cnt num v
  · rw [if_pos c]
    rw [decide_eq_true (e2.mpr c), if_pos rfl] at e1
    omega
  · rw [if_neg c]
    rw [decide_eq_false (fun z => c (e2.mp z)), if_neg Bool.false_ne_true] at e1
    omega
end Z

/-! Z31: a deed on the counts is the deed on the rows, counted. -/
namespace Z
open PySem PySem.Spec PyProof.Rows L2
def cntT (num : Int) (t : Tab) : Cts := t.map fun p => (p.1, cnt num p.2)
theorem cntT_keys (num : Int) (t : Tab) : (cntT num t).map (·.1) = t.map (·.1) := by
  unfold cntT
  rw [List.map_map]
  rfl
theorem getA_cntT {num : Int} : ∀ {t : Tab} {a : Str}, a ∈ t.map (·.1) → getA (cntT num t) a = cnt num (getT t a)
  | [], a, h => by simp at h
  | p :: t, a, h => by
    by_cases e : p.1 = a
    · subst e
      rw [getT_head]
      exact getA_head (p := (p.1, cnt num p.2)) (cs := cntT num t)
    · have h2 : a ∈ t.map (·.1) := by
        rcases List.mem_cons.mp h with z | z
        · exact absurd z.symm e
        · exact z
      rw [getT_tail e]
      exact (getA_tail (p := (p.1, cnt num p.2)) (cs := cntT num t) e).trans (getA_cntT h2)
theorem setA_cntT (num : Int) (t : Tab) (a : Str) (v : List Int) : setA (cntT num t) a (cnt num v) = cntT num (setT t a v) := by
  unfold setA cntT setT
  rw [List.map_map, List.map_map]
  refine List.map_congr_left fun p _ => ?_
  show (if p.1 = a then (p.1, cnt num v) else (p.1, cnt num p.2)) = ((if p.1 = a then (p.1, v) else p).1, cnt num (if p.1 = a then (p.1, v) else p).2)
  split <;> rfl
theorem setA_same {cs : Cts} {a : Str} (nd : (cs.map (·.1)).Nodup) (h : a ∈ cs.map (·.1)) : setA cs a (getA cs a) = cs := by
  unfold setA
  refine (List.map_congr_left fun p hp => ?_).trans (List.map_id cs)
  by_cases e : p.1 = a
  · rw [if_pos e]
    obtain ⟨i, hi, hv⟩ := List.getElem_of_mem hp
    have h1 : cs[i]? = some p := by rw [List.getElem?_eq_getElem hi, hv]
    obtain ⟨q, e1, e2, e3⟩ := getA_at nd (show (cs.map (·.1))[i]? = some a by rw [List.getElem?_map, h1, ← e]; rfl)
    rw [h1] at e1
    cases e1
    rw [← e3]
    rfl
  · rw [if_neg e]
    rfl
/-- rising rows everywhere -/
def Rising (t : Tab) : Prop := ∀ p ∈ t, p.2.Pairwise (· ≤ ·)
theorem Rising.get {t : Tab} {a : Str} (h : Rising t) : (getT t a).Pairwise (· ≤ ·) := by
  unfold getT
  cases e : t.find? fun p => decide (p.1 = a) with
  | none => exact List.Pairwise.nil
  | some p => exact h p (List.mem_of_find?_eq_some e)
theorem Rising.set {t : Tab} {a : Str} {v : List Int} (h : Rising t) (hv : v.Pairwise (· ≤ ·)) : Rising (setT t a v) := fun p hp => by
  obtain ⟨q, hq, rfl⟩ := List.mem_map.mp hp
  split
  · exact hv
  · exact h q hq
theorem Rising.erase {v : List Int} (h : v.Pairwise (· ≤ ·)) (i : Nat) : (v.eraseIdx i).Pairwise (· ≤ ·) := h.sublist (List.eraseIdx_sublist v i)
theorem Rising.step {t : Tab} (h : Rising t) (d : Deed) : Rising (stepT t d) := by
  cases d with
  | come a n => exact h.set (sortI_pw _)
  | go a k =>
    show Rising (if k ≤ ((getT t a).length : Int) then setT t a ((getT t a).eraseIdx (((getT t a).length : Int) - k).toNat) else t)
    split
    · exact h.set (Rising.erase h.get _)
    · exact h
  | keep a k => exact h.set (h.get.sublist (List.drop_sublist _ _))
  | move a k b =>
    by_cases hk : k ≤ ((getT t a).length : Int)
    · have e : stepT t (.move a k b) = _ := if_pos hk
      rw [e]
      exact (h.set (Rising.erase h.get _)).set (sortI_pw _)
    · have e : stepT t (.move a k b) = t := if_neg hk
      rw [e]
      exact h
  | merge a b => exact (h.set (sortI_pw _)).set List.Pairwise.nil
theorem cnt_nn (num : Int) (v : List Int) : 0 ≤ cnt num v := Int.natCast_nonneg _
theorem cnt_le (num : Int) (v : List Int) : cnt num v ≤ (v.length : Int) := by
  unfold cnt
  exact_mod_cast List.length_filter_le _ _
/-- THE LAW of one deed -/
theorem step_law {num : Int} {t : Tab} {d : Deed} {names : List Str} {pool : List Int} (nd : (t.map (·.1)).Nodup) (hr : Rising t) (hk : t.map (·.1) = names) (ok : DeedOk names pool d) : stepA num (cntT num t) d = cntT num (stepT t d) := by
  subst hk
  have mem : ∀ {a}, a ∈ t.map (·.1) → a ∈ (cntT num t).map (·.1) := fun h => by rw [cntT_keys]; exact h
  have ndc : ((cntT num t).map (·.1)).Nodup := by rw [cntT_keys]; exact nd
  cases d with
  | come a n =>
    have ha := ok.1
    show setA (cntT num t) a (getA (cntT num t) a + if decide (num ≤ n) = true then 1 else 0) = cntT num (setT t a (sortI (getT t a ++ [n])))
    rw [getA_cntT ha, ← setA_cntT, cnt_sort, cnt_app, cnt_one]
  | go a k =>
    obtain ⟨ha, k1, _⟩ := ok
    show (if k ≤ getA (cntT num t) a then setA (cntT num t) a (getA (cntT num t) a - 1) else cntT num t) = cntT num (if k ≤ ((getT t a).length : Int) then setT t a ((getT t a).eraseIdx (((getT t a).length : Int) - k).toNat) else t)
    have le := cnt_le num (getT t a)
    by_cases c : k ≤ ((getT t a).length : Int)
    · have q := (cnt_pop (num := num) hr.get k1 c).1
      rw [if_pos c, ← setA_cntT, q, getA_cntT ha]
      split
      · rfl
      · rw [← getA_cntT ha, setA_same ndc (mem ha)]
    · rw [if_neg c, if_neg (by rw [getA_cntT ha]; omega)]
  | keep a k =>
    obtain ⟨ha, k0, _⟩ := ok
    show setA (cntT num t) a (if k < getA (cntT num t) a then k else getA (cntT num t) a) = cntT num (setT t a ((getT t a).drop (((getT t a).length : Int) - k).toNat))
    rw [← setA_cntT, cnt_drop hr.get k0, getA_cntT ha]
  | move a k b =>
    obtain ⟨ha, k1, _, hb, hab⟩ := ok
    have le := cnt_le num (getT t a)
    by_cases c : k ≤ ((getT t a).length : Int)
    · have q := cnt_pop (num := num) hr.get k1 c
      have e : stepT t (.move a k b) = _ := if_pos c
      rw [e, ← setA_cntT, ← setA_cntT, q.1, cnt_sort, cnt_app, cnt_one, getT_set _ ha, if_neg (Ne.symm hab)]
      show (if k ≤ getA (cntT num t) a then setA (setA (cntT num t) a (getA (cntT num t) a - 1)) b (getA (setA (cntT num t) a (getA (cntT num t) a - 1)) b + 1) else cntT num t) = _
      rw [getA_set _ (mem ha), if_neg (Ne.symm hab), getA_cntT ha, getA_cntT hb]
      by_cases f : k ≤ cnt num (getT t a)
      · rw [if_pos f, if_pos f, decide_eq_true (q.2.mpr f), if_pos rfl]
      · rw [if_neg f, if_neg f, decide_eq_false (fun z => f (q.2.mp z)), if_neg Bool.false_ne_true, Int.add_zero, ← getA_cntT ha, setA_same ndc (mem ha), ← getA_cntT hb, setA_same ndc (mem hb)]
    · have e : stepT t (.move a k b) = t := if_neg c
      rw [e]
      exact if_neg (by rw [getA_cntT ha]; omega)
  | merge a b =>
    obtain ⟨ha, hb, hab⟩ := ok
    show setA (setA (cntT num t) b (getA (cntT num t) b + getA (cntT num t) a)) a 0 = cntT num (setT (setT t b (sortI (getT t b ++ getT t a))) a [])
    rw [← setA_cntT, ← setA_cntT, cnt_sort, cnt_app, getA_cntT ha, getA_cntT hb]
    rfl
theorem run_law {num : Int} {names : List Str} {pool : List Int} : ∀ (ds : List Deed) {t : Tab}, (t.map (·.1)).Nodup → Rising t → t.map (·.1) = names → (∀ d ∈ ds, DeedOk names pool d) → runA num (cntT num t) ds = cntT num (runT t ds)
  | [], _, _, _, _, _ => rfl
  | d :: ds, t, nd, hr, hk, ok => by
    show runA num (stepA num (cntT num t) d) ds = cntT num (runT (stepT t d) ds)
    rw [step_law nd hr hk (ok d List.mem_cons_self)]
    exact run_law ds (by rw [stepT_keys]; exact nd) (hr.step d) (by rw [stepT_keys]; exact hk) fun e he => ok e (List.mem_cons_of_mem _ he)
end Z

/-! Z32: more counts give more counts. -/
namespace Z
open PySem PySem.Spec PyProof.Rows L2
/-- the same names, each count at most the other's -/
def Below (cs cs' : Cts) : Prop := cs.map (·.1) = cs'.map (·.1) ∧ ∀ a ∈ cs.map (·.1), getA cs a ≤ getA cs' a
theorem Below.set {cs cs' : Cts} {a : Str} {v v' : Int} (h : Below cs cs') (ha : a ∈ cs.map (·.1)) (hv : v ≤ v') : Below (setA cs a v) (setA cs' a v') := by
  refine ⟨by rw [setA_keys, setA_keys]; exact h.1, fun b hb => ?_⟩
  rw [setA_keys] at hb
  rw [getA_set v ha, getA_set v' (by rw [← h.1]; exact ha)]
  split
  · exact hv
  · exact h.2 b hb
theorem Below.step {cs cs' : Cts} {d : Deed} {num : Int} (h : Below cs cs') (hd : InN (cs.map (·.1)) d) : Below (stepA num cs d) (stepA num cs' d) := by
  have mem' : ∀ {a}, a ∈ cs.map (·.1) → a ∈ cs'.map (·.1) := fun ha => by rw [← h.1]; exact ha
  cases d with
  | come a n =>
    have ha : a ∈ cs.map (·.1) := hd
    exact h.set ha (by have := h.2 a ha; omega)
  | go a k =>
    have ha : a ∈ cs.map (·.1) := hd
    have l := h.2 a ha
    show Below (if k ≤ getA cs a then setA cs a (getA cs a - 1) else cs) (if k ≤ getA cs' a then setA cs' a (getA cs' a - 1) else cs')
    by_cases c : k ≤ getA cs a
    · rw [if_pos c, if_pos (by omega)]
      exact h.set ha (by omega)
    · rw [if_neg c]
      split
      · refine ⟨by rw [setA_keys]; exact h.1, fun b hb => ?_⟩
        rw [getA_set _ (mem' ha)]
        split
        · next e => subst e; omega
        · exact h.2 b hb
      · exact h
  | keep a k =>
    have ha : a ∈ cs.map (·.1) := hd
    have l := h.2 a ha
    exact h.set ha (by split <;> split <;> omega)
  | move a k b =>
    obtain ⟨ha, hb, hab⟩ := hd
    have l := h.2 a ha
    have lb := h.2 b hb
    show Below (if k ≤ getA cs a then setA (setA cs a (getA cs a - 1)) b (getA (setA cs a (getA cs a - 1)) b + 1) else cs) (if k ≤ getA cs' a then setA (setA cs' a (getA cs' a - 1)) b (getA (setA cs' a (getA cs' a - 1)) b + 1) else cs')
    rw [getA_set _ ha, getA_set _ (mem' ha), if_neg (Ne.symm hab), if_neg (Ne.symm hab)]
    by_cases c : k ≤ getA cs a
    · rw [if_pos c, if_pos (by omega)]
      exact (h.set ha (by omega)).set (setA_mem hb) (by omega)
    · rw [if_neg c]
      split
      · refine ⟨by rw [setA_keys, setA_keys]; exact h.1, fun e he => ?_⟩
        rw [getA_set _ (setA_mem (mem' hb)), getA_set _ (mem' ha)]
        split
        · next z => subst z; omega
        · split
          · next z => subst z; omega
          · exact h.2 e he
      · exact h
  | merge a b =>
    obtain ⟨ha, hb, hab⟩ := hd
    have l := h.2 a ha
    have lb := h.2 b hb
    exact (h.set hb (by omega)).set (setA_mem ha) (Int.le_refl 0)
theorem Below.run {num : Int} : ∀ (ds : List Deed) {cs cs' : Cts}, Below cs cs' → (∀ d ∈ ds, InN (cs.map (·.1)) d) → Below (runA num cs ds) (runA num cs' ds)
  | [], _, _, h, _ => h
  | d :: ds, cs, cs', h, hd => Below.run ds (h.step (hd d List.mem_cons_self)) fun e he => by rw [stepA_keys]; exact hd e (List.mem_cons_of_mem _ he)
end Z

/-! Z33: Below, and lists of counts side by side. -/
namespace Z
open PySem PySem.Spec PyProof.Rows L2
theorem below_zip : ∀ {ks : List Str} {c c' : List Int}, ks.Nodup → c.length = ks.length → c'.length = ks.length → (∀ p ∈ List.zip c c', p.1 ≤ p.2) → Below (List.zip ks c) (List.zip ks c')
  | [], _, _, _, _, _, _ => ⟨rfl, fun a h => by simp at h⟩
  | _ :: _, [], _, _, h, _, _ => by simp at h
  | _ :: _, _ :: _, [], _, _, h, _ => by simp at h
  | k :: ks, x :: c, y :: c', nd, h1, h2, h => by
    rw [List.nodup_cons] at nd
    have h1' : c.length = ks.length := by simpa using h1
    have h2' : c'.length = ks.length := by simpa using h2
    have ih := below_zip nd.2 h1' h2' fun p hp => h p (List.mem_cons_of_mem _ hp)
    refine ⟨by rw [zip_keys h1, zip_keys h2], fun a ha => ?_⟩
    rw [zip_keys h1] at ha
    show getA ((k, x) :: List.zip ks c) a ≤ getA ((k, y) :: List.zip ks c') a
    by_cases e : k = a
    · subst e
      rw [getA_head (p := (k, x)), getA_head (p := (k, y))]
      exact h (x, y) List.mem_cons_self
    · rw [getA_tail (p := (k, x)) e, getA_tail (p := (k, y)) e]
      refine ih.2 a ?_
      rw [zip_keys h1']
      rcases List.mem_cons.mp ha with z | z
      · exact absurd z.symm e
      · exact z
theorem zip_below : ∀ {cs cs' : Cts}, (cs.map (·.1)).Nodup → Below cs cs' → ∀ p ∈ List.zip (cs.map (·.2)) (cs'.map (·.2)), p.1 ≤ p.2
  | [], _, _, _ => by simp
  | _ :: _, [], _, _ => by simp
  | q :: cs, q' :: cs', nd, h => by
    rw [List.map_cons, List.nodup_cons] at nd
    have hk := h.1
    rw [List.map_cons, List.map_cons] at hk
    injection hk with e1 e2
    have ih := zip_below nd.2 (cs := cs) (cs' := cs') ⟨e2, fun a ha => by
      have ne : q.1 ≠ a := fun z => nd.1 (z ▸ ha)
      have := h.2 a (List.mem_cons_of_mem _ ha)
      rwa [getA_tail ne, getA_tail (e1 ▸ ne)] at this⟩
    intro p hp
    rw [List.map_cons, List.map_cons, List.zip_cons_cons] at hp
    rcases List.mem_cons.mp hp with rfl | hp
    · have := h.2 q.1 (by simp)
      rwa [getA_head, e1, getA_head] at this
    · exact ih p hp
end Z

/-! Z34: data that is short to show. -/
namespace Z
open PySem PySem.Spec PyProof.Rows L2
/-- d can be shown, is at most n deep, weighs at most w -/
structure Mild (d : PyData) (n w : Nat) : Prop where
  lv : d.leavesShort 60 = true
  sw : d.showable = true
  dp : d.depth ≤ n
  wt : d.weight ≤ w
theorem Mild.shown {d : PyData} {n w : Nat} (h : Mild d n w) (hw : w ≤ 200000) : d.shown.length ≤ sizeLine := by
  have := PyData.shown_le 60 (by decide) d h.lv
  have := h.wt
  show _ ≤ 2 ^ 24
  omega
theorem mild_int {i : Int} (h : i.natAbs < 10 ^ 58) : Mild (.int i) 0 200 := by
  have h2 : i.natAbs < 2 ^ 199 := Nat.lt_of_lt_of_le h (by decide +kernel)
  have lg : i.natAbs = 0 ∨ i.natAbs.log2 < 199 := by
    by_cases z : i.natAbs = 0
    · exact .inl z
    · exact .inr ((Nat.log2_lt z).mpr h2)
  refine ⟨?_, ?_, Nat.le_refl 0, ?_⟩
  · have e := int_text_length_le10 (k := 58) (by decide) h
    show decide ((Str.ofString (toString i)).length ≤ 60) = true
    refine decide_eq_true ?_
    rw [PySem.ofString_length]
    omega
  · show decide (i.natAbs.log2 < 1920) = true
    refine decide_eq_true ?_
    rcases lg with z | z
    · rw [z]; decide
    · omega
  · show (if i == 0 then 0 else i.natAbs.log2 + 1) ≤ 200
    split
    · omega
    · rcases lg with z | z
      · rw [z]; decide
      · omega
theorem mild_none : Mild .none 0 0 := ⟨rfl, rfl, Nat.le_refl 0, Nat.le_refl 0⟩
end Z

/-! Z35: lists and tuples of what is short to show. -/
namespace Z
open PySem PySem.Spec PyProof.Rows L2
theorem mild_all {n w : Nat} : ∀ {ds : List PyData}, (∀ d ∈ ds, Mild d n w) → PyData.leavesShortAll 60 ds = true ∧ PyData.showableAll ds = true ∧ PyData.depthAll ds ≤ n ∧ PyData.weightAll ds ≤ ds.length * (w + 1)
  | [], _ => ⟨rfl, rfl, Nat.zero_le _, Nat.zero_le _⟩
  | d :: ds, h => by
    obtain ⟨a, b, c, e⟩ := h d List.mem_cons_self
    obtain ⟨a2, b2, c2, e2⟩ := mild_all fun x hx => h x (List.mem_cons_of_mem _ hx)
    refine ⟨?_, ?_, ?_, ?_⟩
    · rw [PyData.leavesShortAll, a, a2]; rfl
    · rw [PyData.showableAll, b, b2]; rfl
    · rw [PyData.depthAll]; exact Nat.max_le.mpr ⟨c, c2⟩
    · rw [PyData.weightAll, List.length_cons, Nat.add_mul]; omega
theorem mild_tup {n w k : Nat} {ds : List PyData} (h : ∀ d ∈ ds, Mild d n w) (hk : ds.length ≤ k) : Mild (.tuple ds) (n + 1) (k * (w + 1)) := by
  obtain ⟨a, b, c, e⟩ := mild_all h
  refine ⟨?_, ?_, ?_, ?_⟩
  · rw [PyData.leavesShort]; exact a
  · rw [PyData.showable]; exact b
  · rw [PyData.depth]; omega
  · rw [PyData.weight]; exact Nat.le_trans e (Nat.mul_le_mul_right _ hk)
theorem mild_lst {n w k : Nat} {ds : List PyData} (h : ∀ d ∈ ds, Mild d n w) (hk : ds.length ≤ k) : Mild (.list ds) (n + 1) (k * (w + 1)) := by
  obtain ⟨a, b, c, e⟩ := mild_all h
  refine ⟨?_, ?_, ?_, ?_⟩
  · rw [PyData.leavesShort]; exact a
  · rw [PyData.showable]; exact b
  · rw [PyData.depth]; omega
  · rw [PyData.weight]; exact Nat.le_trans e (Nat.mul_le_mul_right _ hk)
theorem Mild.up {d : PyData} {n w n' w' : Nat} (h : Mild d n w) (hn : n ≤ n') (hw : w ≤ w') : Mild d n' w' := ⟨h.lv, h.sw, Nat.le_trans h.dp hn, Nat.le_trans h.wt hw⟩
end Z

/-! Z36: ints compared and shown: what alike asks of the told lists. -/
namespace Z
open PySem PySem.Spec PyProof.Rows L2
theorem lay_ints : ∀ ns : List Int, PyData.canLayAll0 (ns.map .int) = true
  | [] => rfl
  | n :: ns => by rw [List.map_cons, PyData.canLayAll0, lay_ints ns]; rfl
theorem plain_of {d : PyData} {n w : Nat} (m : Mild d n w) (hn : n ≤ 60) (hw : w ≤ 200000) (h : d.canLay0 = true) : Plain d :=
  ⟨by
    unfold SeqAt.shaped
    rw [h, decide_eq_true (Nat.le_trans m.dp (by omega))]
    rfl, m.sw, Nat.le_trans m.dp hn, m.shown hw, SeqAt.eqv_refl d h⟩
theorem plain_ints {ns : List Int} (h : ∀ n ∈ ns, n.natAbs < 10 ^ 58) (hl : ns.length ≤ 900) : Plain (.list (ns.map .int)) :=
  plain_of (mild_lst (n := 0) (w := 200) (k := 900) (fun d hd => by obtain ⟨n, hn, rfl⟩ := mem_ints hd; exact mild_int (h n hn)) (by rw [List.length_map]; exact hl)) (by decide) (by decide) (by rw [PyData.canLay0]; exact lay_ints ns)
theorem plain_tints {ns : List Int} (h : ∀ n ∈ ns, n.natAbs < 10 ^ 58) (hl : ns.length ≤ 900) : Plain (.tuple (ns.map .int)) :=
  plain_of (mild_tup (n := 0) (w := 200) (k := 900) (fun d hd => by obtain ⟨n, hn, rfl⟩ := mem_ints hd; exact mild_int (h n hn)) (by rw [List.length_map]; exact hl)) (by decide) (by decide) (by rw [PyData.canLay0]; exact lay_ints ns)
end Z

/-! Z37: how large the counts may grow. -/
namespace Z
open PySem PySem.Spec PyProof.Rows L2
def Small (B : Int) (cs : Cts) : Prop := ∀ p ∈ cs, 0 ≤ p.2 ∧ p.2 ≤ B
theorem Small.get {B : Int} {cs : Cts} {a : Str} (hB : 0 ≤ B) (h : Small B cs) : 0 ≤ getA cs a ∧ getA cs a ≤ B := by
  unfold getA
  cases e : cs.find? fun p => decide (p.1 = a) with
  | none => exact ⟨Int.le_refl 0, hB⟩
  | some p => exact h p (List.mem_of_find?_eq_some e)
theorem Small.set {B : Int} {cs : Cts} {a : Str} {v : Int} (h : Small B cs) (hv : 0 ≤ v ∧ v ≤ B) : Small B (setA cs a v) := fun p hp => by
  obtain ⟨q, hq, rfl⟩ := List.mem_map.mp hp
  split
  · exact hv
  · exact h q hq
theorem Small.up {B B' : Int} {cs : Cts} (h : Small B cs) (hb : B ≤ B') : Small B' cs := fun p hp => ⟨(h p hp).1, Int.le_trans (h p hp).2 hb⟩
theorem Small.step {B num : Int} {cs : Cts} {d : Deed} {names : List Str} {pool : List Int} (hB : 0 ≤ B) (h : Small B cs) (ok : DeedOk names pool d) : Small (2 * B + 1) (stepA num cs d) := by
  have u := h.up (B' := 2 * B + 1) (by omega)
  have g := fun a => h.get (a := a) hB
  cases d with
  | come a n => exact u.set (by have := g a; split <;> omega)
  | go a k =>
    show Small _ (if k ≤ getA cs a then setA cs a (getA cs a - 1) else cs)
    have := ok.2.1
    split
    · exact u.set (by have := g a; omega)
    · exact u
  | keep a k =>
    have := ok.2.1
    exact u.set (by have := g a; split <;> omega)
  | move a k b =>
    have k1 := ok.2.1
    show Small _ (if k ≤ getA cs a then setA (setA cs a (getA cs a - 1)) b (getA (setA cs a (getA cs a - 1)) b + 1) else cs)
    split
    · have s1 : Small B (setA cs a (getA cs a - 1)) := h.set (by have := g a; omega)
      exact (s1.up (by omega)).set (by have := s1.get (a := b) hB; omega)
    · exact u
  | merge a b => exact (u.set (by have := g a; have := g b; omega)).set (by omega)
end Z

/-! Z38: dicts that are short to show. -/
namespace Z
open PySem PySem.Spec PyProof.Rows L2
theorem mild_kv {n w : Nat} : ∀ {kvs : List (PyData × PyData)}, (∀ p ∈ kvs, Mild p.1 n w ∧ Mild p.2 n w) → PyData.leavesShortKv 60 kvs = true ∧ PyData.showableKv kvs = true ∧ PyData.depthKv kvs ≤ n ∧ PyData.weightKv kvs ≤ kvs.length * (2 * w + 2)
  | [], _ => ⟨rfl, rfl, Nat.zero_le _, Nat.zero_le _⟩
  | (k, v) :: r, h => by
    obtain ⟨⟨a, b, c, e⟩, ⟨a', b', c', e'⟩⟩ := h (k, v) List.mem_cons_self
    obtain ⟨a2, b2, c2, e2⟩ := mild_kv fun x hx => h x (List.mem_cons_of_mem _ hx)
    simp only at a b c e a' b' c' e'
    refine ⟨?_, ?_, ?_, ?_⟩
    · rw [PyData.leavesShortKv, a, a', a2]; rfl
    · rw [PyData.showableKv, b, b', b2]; rfl
    · rw [PyData.depthKv]; exact Nat.max_le.mpr ⟨Nat.max_le.mpr ⟨c, c'⟩, c2⟩
    · rw [PyData.weightKv, List.length_cons, Nat.add_mul]; omega
theorem mild_dict {n w k : Nat} {kvs : List (PyData × PyData)} (h : ∀ p ∈ kvs, Mild p.1 n w ∧ Mild p.2 n w) (hk : kvs.length ≤ k) : Mild (.dict kvs) (n + 1) (k * (2 * w + 2)) := by
  obtain ⟨a, b, c, e⟩ := mild_kv h
  refine ⟨?_, ?_, ?_, ?_⟩
  · rw [PyData.leavesShort]; exact a
  · rw [PyData.showable]; exact b
  · rw [PyData.depth]; omega
  · rw [PyData.weight]; exact Nat.le_trans e (Nat.mul_le_mul_right _ hk)
end Z

/-! Z39: names and words are short to show. -/
namespace Z
open PySem PySem.Spec PyProof.Rows L2
def words : List Str := ["come", "go", "keep", "move", "merge"]
theorem mild_text {ss : List Str} (h : (ss.all fun s => s.cps.toList.all (fun c => decide (c < 16 ^ 8)) && decide (s.cps.size ≤ 8)) = true) {s : Str} (hs : s ∈ ss) : Mild (.str s) 0 8 := by
  have := List.all_eq_true.mp h s hs
  rw [Bool.and_eq_true] at this
  exact ⟨by rw [PyData.leavesShort]; exact this.1, rfl, Nat.le_refl 0, by rw [PyData.weight]; exact of_decide_eq_true this.2⟩
theorem mild_name {s : Str} (h : s ∈ menu) : Mild (.str s) 0 8 := mild_text (by decide +kernel) h
theorem mild_word {s : Str} (h : s ∈ words) : Mild (.str s) 0 8 := mild_text (by decide +kernel) h
end Z

/-! Z40: houses are short to show. -/
namespace Z
open PySem PySem.Spec PyProof.Rows L2
theorem small_abs {i : Int} {n : Nat} (h0 : -(n : Int) ≤ i) (h1 : i ≤ (n : Int)) : i.natAbs ≤ n := by omega
theorem mild_row {r : HRow} (ok : RowOk r) (hn : r.name ∈ menu) : Mild (rowD r) 1 603 := by
  have h58 : (20 : Nat) < 10 ^ 58 := by decide +kernel
  refine mild_tup (n := 0) (w := 200) (k := 3) (fun d hd => ?_) (Nat.le_refl _)
  simp only [List.mem_cons, List.not_mem_nil, or_false] at hd
  rcases hd with rfl | rfl | rfl
  · exact (mild_name hn).up (Nat.le_refl 0) (by decide)
  · have l0 := ok.l0
    have l1 := ok.l1
    exact mild_int (Nat.lt_of_le_of_lt (small_abs (n := 20) (by omega) (by omega)) h58)
  · cases e : r.most with
    | none => exact mild_none.up (Nat.le_refl 0) (Nat.zero_le _)
    | some x =>
      have q := ok.m x e
      have l0 := ok.l0
      exact mild_int (Nat.lt_of_le_of_lt (small_abs (n := 20) (by omega) (by omega)) h58)
theorem mild_house {h : List HRow} (ok : HouseOk h) : Mild (houseD h) 2 (9 * 604) :=
  mild_tup (n := 1) (w := 603) (k := 9) (fun d hd => by
    obtain ⟨r, hr, rfl⟩ := List.mem_map.mp hd
    exact mild_row (ok.row r hr) (ok.mem r hr)) (by rw [List.length_map]; exact ok.n1)
end Z

/-! Z41: deeds are short to show. -/
namespace Z
open PySem PySem.Spec PyProof.Rows L2
theorem mild_num {n : Int} (h : -numB * 10 ≤ n ∧ n ≤ numB * 10) : Mild (.int n) 0 200 := by
  refine mild_int (Nat.lt_of_le_of_lt (small_abs (n := 10 ^ 42) ?_ ?_) (by decide +kernel))
  · have := h.1
    unfold numB at this
    have e : ((10 ^ 42 : Nat) : Int) = 1000000000000000000000000000000000000000000 := by decide +kernel
    omega
  · have := h.2
    unfold numB at this
    have e : ((10 ^ 42 : Nat) : Int) = 1000000000000000000000000000000000000000000 := by decide +kernel
    omega
end Z

/-! Z42: deeds, scripts, tables are short to show. -/
namespace Z
open PySem PySem.Spec PyProof.Rows L2
theorem mild_small {n : Int} (h : -1000 ≤ n ∧ n ≤ 1000) : Mild (.int n) 0 200 := mild_num (by unfold numB; omega)
/-- the numbers of a pool that a deed may carry -/
def PoolB (pool : List Int) : Prop := ∀ n ∈ pool, -numB * 10 ≤ n ∧ n ≤ numB * 10
theorem mild_deed {names : List Str} {pool : List Int} {d : Deed} (hn : ∀ s ∈ names, s ∈ menu) (hp : PoolB pool) (ok : DeedOk names pool d) : Mild (deedD d) 1 804 := by
  have nm : ∀ {s}, s ∈ names → Mild (.str s) 0 200 := fun h => (mild_name (hn _ h)).up (Nat.le_refl 0) (by decide)
  have wd : ∀ {s}, s ∈ words → Mild (.str s) 0 200 := fun h => (mild_word h).up (Nat.le_refl 0) (by decide)
  have tup : ∀ {ds : List PyData}, ds.length ≤ 4 → (∀ d ∈ ds, Mild d 0 200) → Mild (.tuple ds) 1 804 := fun hl h => mild_tup (n := 0) (w := 200) (k := 4) h hl
  cases d with
  | come a n =>
    refine tup (Nat.le_of_ble_eq_true rfl) fun d hd => ?_
    simp only [List.mem_cons, List.not_mem_nil, or_false] at hd
    rcases hd with rfl | rfl | rfl
    · exact wd (by decide)
    · exact nm ok.1
    · exact mild_num (hp n ok.2)
  | go a k =>
    refine tup (Nat.le_of_ble_eq_true rfl) fun d hd => ?_
    simp only [List.mem_cons, List.not_mem_nil, or_false] at hd
    rcases hd with rfl | rfl | rfl
    · exact wd (by decide)
    · exact nm ok.1
    · exact mild_small (by have := ok.2; omega)
  | keep a k =>
    refine tup (Nat.le_of_ble_eq_true rfl) fun d hd => ?_
    simp only [List.mem_cons, List.not_mem_nil, or_false] at hd
    rcases hd with rfl | rfl | rfl
    · exact wd (by decide)
    · exact nm ok.1
    · exact mild_small (by have := ok.2; omega)
  | move a k b =>
    refine tup (Nat.le_of_ble_eq_true rfl) fun d hd => ?_
    simp only [List.mem_cons, List.not_mem_nil, or_false] at hd
    rcases hd with rfl | rfl | rfl | rfl
    · exact wd (by decide)
    · exact nm ok.1
    · exact mild_small (by have := ok.2; omega)
    · exact nm ok.2.2.2.1
  | merge a b =>
    refine tup (Nat.le_of_ble_eq_true rfl) fun d hd => ?_
    simp only [List.mem_cons, List.not_mem_nil, or_false] at hd
    rcases hd with rfl | rfl | rfl
    · exact wd (by decide)
    · exact nm ok.1
    · exact nm ok.2.1
theorem mild_script {names : List Str} {pool : List Int} {ds : List Deed} (hn : ∀ s ∈ names, s ∈ menu) (hp : PoolB pool) (ok : ∀ d ∈ ds, DeedOk names pool d) (hl : ds.length ≤ 16) : Mild (scriptD ds) 2 (16 * 805) :=
  mild_tup (n := 1) (w := 804) (k := 16) (fun d hd => by
    obtain ⟨e, he, rfl⟩ := List.mem_map.mp hd
    exact mild_deed hn hp (ok e he)) (by rw [List.length_map]; exact hl)
theorem mild_tab {t : Tab} {pool : List Int} (hn : ∀ p ∈ t, p.1 ∈ menu) (hp : PoolB pool) (hr : ∀ p ∈ t, p.2.length ≤ 40 ∧ ∀ n ∈ p.2, n ∈ pool) (hl : t.length ≤ 9) : Mild (tabD t) 2 (9 * (2 * 8040 + 2)) := by
  unfold tabD dictK
  refine mild_dict (n := 1) (w := 8040) (k := 9) (fun q hq => ?_) (by rw [List.length_map, List.length_map]; exact hl)
  obtain ⟨q2, hq2, rfl⟩ := List.mem_map.mp hq
  obtain ⟨p, hp2, rfl⟩ := List.mem_map.mp hq2
  refine ⟨(mild_name (hn p hp2)).up (Nat.zero_le _) (by decide), ?_⟩
  exact mild_tup (n := 0) (w := 200) (k := 40) (fun d hd => by
    obtain ⟨n, hn2, rfl⟩ := mem_ints hd
    exact mild_num (hp n ((hr p hp2).2 n hn2))) (by rw [List.length_map]; exact (hr p hp2).1)
end Z

/-! Z43: how large counts are behind a script; told pairs of counts are plain. -/
namespace Z
open PySem PySem.Spec PyProof.Rows L2
theorem Small.run {num : Int} {names : List Str} {pool : List Int} : ∀ (ds : List Deed) {B : Int} {cs : Cts}, 0 ≤ B → Small B cs → (∀ d ∈ ds, DeedOk names pool d) → Small ((B + 1) * 2 ^ ds.length - 1) (runA num cs ds)
  | [], B, cs, hB, h, _ => by
    show Small _ cs
    exact h.up (by simp)
  | d :: ds, B, cs, hB, h, ok => by
    have s1 : Small (2 * B + 1) (stepA num cs d) := h.step hB (ok d (by simp))
    have r := Small.run (num := num) ds (B := 2 * B + 1) (by omega) s1 fun e he => ok e (by simp [he])
    have e : (2 * B + 1 + 1) * 2 ^ ds.length - 1 = (B + 1) * 2 ^ (d :: ds).length - 1 := by
      rw [List.length_cons, Int.pow_succ, show (2 * B + 1 + 1 : Int) = (B + 1) * 2 by omega, Int.mul_assoc, Int.mul_comm 2]
    rw [e] at r
    exact r
def ctsL (cs : Cts) : List Int := cs.map (·.2)
theorem ctsD_eq (cs : Cts) : ctsD cs = .tuple ((ctsL cs).map .int) := by unfold ctsD ctsL; rw [List.map_map]; rfl
theorem mild_cts {cs : Cts} (h : Small 1000000 cs) (hl : cs.length ≤ 9) : Mild (ctsD cs) 1 (9 * 201) := by
  rw [ctsD_eq]
  refine mild_tup (n := 0) (w := 200) (k := 9) (fun d hd => ?_) (by unfold ctsL; rw [List.length_map, List.length_map]; exact hl)
  obtain ⟨n, hn, rfl⟩ := mem_ints hd
  obtain ⟨p, hp, rfl⟩ := List.mem_map.mp hn
  have := h p hp
  exact mild_num (by unfold numB; omega)
theorem lay_cts (cs : Cts) : (ctsD cs).canLay0 = true := by rw [ctsD_eq, PyData.canLay0]; exact lay_ints _
theorem plain_cts {cs : Cts} (h : Small 1000000 cs) (hl : cs.length ≤ 9) : Plain (ctsD cs) := plain_of (mild_cts h hl) (by decide) (by decide) (lay_cts cs)
theorem plain_two {a b : Cts} (ha : Small 1000000 a) (hb : Small 1000000 b) (la : a.length ≤ 9) (lb : b.length ≤ 9) : Plain (.list [ctsD a, ctsD b]) := by
  refine plain_of (n := 2) (w := 2 * (9 * 201 + 1)) (mild_lst (n := 1) (w := 9 * 201) (k := 2) (fun d hd => ?_) (Nat.le_refl 2)) (by decide) (by decide) ?_
  · simp only [List.mem_cons, List.not_mem_nil, or_false] at hd
    rcases hd with rfl | rfl
    · exact mild_cts ha la
    · exact mild_cts hb lb
  · rw [PyData.canLay0, PyData.canLayAll0, PyData.canLayAll0, lay_cts, lay_cts]; rfl
theorem small_zip {ks : List Str} {c : List Int} (h : ∀ n ∈ c, 0 ≤ n ∧ n ≤ 43) : Small 43 (List.zip ks c) := fun p hp => h p.2 (List.of_mem_zip hp).2
theorem small_run {num : Int} {names : List Str} {pool : List Int} {ds : List Deed} {cs : Cts} (h : Small 43 cs) (hl : ds.length ≤ 12) (ok : ∀ d ∈ ds, DeedOk names pool d) : Small 1000000 (runA num cs ds) := by
  refine (Small.run ds (by decide) h ok).up ?_
  have h2 : (2 : Int) ^ ds.length ≤ 2 ^ 12 := by exact_mod_cast Nat.pow_le_pow_right (show 0 < 2 by decide) hl
  have : (43 + 1 : Int) * 2 ^ ds.length ≤ (43 + 1) * 2 ^ 12 := Int.mul_le_mul_of_nonneg_left h2 (by decide)
  have e : ((43 + 1 : Int) * 2 ^ 12) = 180224 := by decide
  omega
def mapRightS : ZSp := fun ws M Φ => ∃ (b : Bag) (R : MS) (h : List HRow) (ds : List Deed) (pool ns : List Int), ws = [.m 0, .d (houseD h), .d (scriptD ds), .d (.list (ns.map .int))] ∧ M = bagO b :: R ∧ b.Good ∧ HouseOk h ∧
  (∀ d ∈ ds, DeedOk (sorts h) pool d) ∧ ds.length ≤ 12 ∧ 0 < ns.length ∧ ns.length < 1000 ∧ ∀ (b' : Bag), b'.Good → Φ (.d (.bool true)) (bagO b' :: R)
end Z

/-! Z44: what k84's law needs of told lists, tables and counts. -/
namespace Z
open PySem PySem.Spec PyProof.Rows L2
/-! ### sorted({..}) as a new cell -/
section
variable {X : Cx} {tg it elt e : Expr} {ifs : List Expr} {scope : Scope} {Γ : GS} {M : MS} {pos pos2 p p2 : Pos} {Φ : W → MS → Prop}
theorem sorted_endM {F H : Hp} {ι : List Addr} {Q : VK} {D : Addr} {ns : List Int} {c : Nat} (R : Rep F H ι M) (hD : H D = some (SetO X.w D (fun j => decide (j ∈ ns)) c)) (hc : c < 64)
    (φ : RiseW ns fun ks => Φ (.m M.length) (M ++ [.lst ((ks.map PyData.int).map .d)])) (hQ : ∀ z H', Post F ι H Φ z H' → Q z H') : rSortedSet X.w [.ref D] H Q :=
  ⟨D, _, c, rfl, hD, hc, fun ks q pw hm hl n => new_cell R .of_ints (φ ks pw fun k => by rw [hm k]; simp) hQ q n⟩
theorem zk_sortedScM {own : List (Str × Nat)} (bs : X.mg "sorted" = none) (hc : X.calm = true) (hN : X.N.Nodup) (ok : BlkOk X.N X.env.scope scope own)
    (h : ZI X tg it Γ M fun ds M1 => ∃ I, LcT X (own.map (·.2)) tg elt ifs scope ds Γ M1 I (fun acc M2 => ∀ ks : List Int, acc = ks.map (fun k => .d (.int k)) → RiseW ks fun ks' => Φ (.m M2.length) (M2 ++ [.lst ((ks'.map PyData.int).map .d)])) ∧
      ∀ i acc M2, I i acc M2 → ∃ ks : List Int, acc = ks.map (fun k => .d (.int k)) ∧ ks.length < 64) (hs : ∀ x, foldedSetIterable it X.env x = pure x := by intro _; rfl)
    (hg : Gl X "sorted" := by rfl) (sy : CSyn X (.SetComp elt [⟨tg, it, ifs, 0⟩] scope pos2) [] pos := by exact ⟨by rfl, by rfl⟩) :
    ZE X (.Call (.Name "sorted" p) [.SetComp elt [⟨tg, it, ifs, 0⟩] scope pos2] [] pos) Γ M Φ := fun F ι σ H R S => by
  refine w_e (pe_callB (cr_sortedSet hc) hg bs bt_sorted (pa_cons (pe_sci hc hN pi_w ok pg_b pts_b pe_b hs) pa_nil sy.star) (he := sy.star) (hpl := sy.plain)) ?_
  show tSci X.w _ _ _ _ _ σ H (fun x H1 => rSortedSet X.w [x] H1 (Post F ι H Φ))
  refine sc_read S R h ?_
  intro L H' F' ι' M' ks c E R' hL hc' hk φ
  exact sorted_endM R' hL (by omega) (φ ks rfl) fun z H' p => Post.ext E p
end
def marksMS : ZSp := fun ws M Φ => ∃ (ds : List Deed), ws = [.d (scriptD ds)] ∧ ds.length < 60 ∧ RiseW (comesOf ds) fun ks => Φ (.m M.length) (M ++ [.lst ((ks.map PyData.int).map .d)])
/-! ### rising lists of the same members are one -/
theorem rise_eq {ks ks' : List Int} (h : ks.Pairwise (· < ·)) (h' : ks'.Pairwise (· < ·)) (m : ∀ k, k ∈ ks ↔ k ∈ ks') : ks = ks' := by
  have nd : ks.Nodup := h.imp fun a => Int.ne_of_lt a
  have nd' : ks'.Nodup := h'.imp fun a => Int.ne_of_lt a
  have p : ks.Perm ks' := (List.perm_ext_iff_of_nodup nd nd').mpr m
  exact p.eq_of_pairwise (fun a b _ _ h1 h2 => by omega) h h'
theorem comes_pool {names : List Str} {pool : List Int} {ds : List Deed} (ok : ∀ d ∈ ds, DeedOk names pool d) : ∀ n ∈ comesOf ds, n ∈ pool := fun n hn => by
  obtain ⟨d, hd, e⟩ := List.mem_filterMap.mp hn
  cases d with
  | come a m =>
    have := (ok _ hd).2
    cases e
    exact this
  | _ => cases e
/-! ### the counts of tables -/
theorem zip_map {α : Type} (f : α → Str) (g : α → Int) : ∀ h : List α, List.zip (h.map f) (h.map g) = h.map fun r => (f r, g r)
  | [] => rfl
  | r :: h => by rw [List.map_cons, List.map_cons, List.zip_cons_cons, zip_map f g h]; rfl
theorem at_start (h : List HRow) (t : Tab) (num : Int) : List.zip (sorts h) (h.map fun r => cnt num (getT t r.name)) = cntT num (startT h t) := by
  unfold sorts cntT startT
  rw [zip_map, List.map_map]
  rfl
theorem getT_mapped {f : Str → List Int} : ∀ {ks : List Str} {a : Str}, a ∈ ks → getT (ks.map fun a => (a, f a)) a = f a
  | [], _, h => absurd h (by simp)
  | k :: ks, a, h => by
    rw [List.map_cons]
    by_cases e : k = a
    · subst e; exact getT_head
    · rw [getT_tail e]
      exact getT_mapped ((List.mem_cons.mp h).resolve_left fun z => e z.symm)
theorem ctsD_cnt {num : Int} {t : Tab} (nd : (t.map (·.1)).Nodup) : ctsD (cntT num t) = .tuple ((t.map (·.1)).map fun a => .int (cnt num (getT t a))) := by
  unfold ctsD
  have e := read_all (cs := cntT num t) (by rw [cntT_keys]; exact nd)
  rw [← e, cntT_keys]
  congr 1
  exact List.map_congr_left fun a ha => by rw [getA_cntT ha]
/-- what the law compares at a number -/
theorem at_behind {h : List HRow} {t : Tab} {ds : List Deed} {num : Int} {pool : List Int} {ks : List Str} (ok : HouseOk h) (rs : Rising (startT h t)) (hds : ∀ d ∈ ds, DeedOk (sorts h) pool d) (pk : ks.Perm (sorts h)) :
    ctsD (runA num (List.zip (sorts h) (h.map fun r => cnt num (getT t r.name))) ds) = .tuple (h.map fun r => .int (cnt num (getT (ks.map fun a => (a, getT (runT (startT h t) ds) a)) r.name))) := by
  have k0 : (startT h t).map (·.1) = sorts h := startT_keys h t
  rw [at_start, run_law ds (names := sorts h) (by rw [k0]; exact ok.nd) rs k0 hds, ctsD_cnt (by rw [runT_keys, k0]; exact ok.nd), runT_keys, k0]
  congr 1
  unfold sorts
  rw [List.map_map]
  refine List.map_congr_left fun r hr => ?_
  show PyData.int (cnt num (getT (runT (startT h t) ds) r.name)) = _
  rw [getT_mapped (f := fun a => getT (runT (startT h t) ds) a) (pk.mem_iff.mpr (List.mem_map.mpr ⟨r, hr, rfl⟩))]
theorem small_at {h : List HRow} {t : Tab} {num : Int} (hb : ∀ p ∈ t, p.2.length ≤ 40) : Small 43 (List.zip (sorts h) (h.map fun r => cnt num (getT t r.name))) := fun p hp => by
  obtain ⟨r, _, e⟩ := List.mem_map.mp (List.of_mem_zip hp).2
  have h1 := cnt_nn num (getT t r.name)
  have h2 := cnt_le num (getT t r.name)
  have h3 : (getT t r.name).length ≤ 40 := getT_bd hb
  rw [← e]
  omega
theorem rising_start {h : List HRow} {t : Tab} (hr : ∀ p ∈ t, p.2.Pairwise (· ≤ ·)) : Rising (startT h t) := fun p hp => by
  obtain ⟨r, _, rfl⟩ := List.mem_map.mp hp
  exact Rising.get hr
/-! ### what is shown -/
theorem mild_three {a b c : PyData} {n wa wb wc : Nat} (ha : Mild a n wa) (hb : Mild b n wb) (hc : Mild c n wc) : Mild (.list [a, b, c]) (n + 1) (wa + wb + wc + 3) := by
  have := ha.dp
  have := hb.dp
  have := hc.dp
  have := ha.wt
  have := hb.wt
  have := hc.wt
  refine ⟨?_, ?_, ?_, ?_⟩
  · simp only [PyData.leavesShort, PyData.leavesShortAll, ha.lv, hb.lv, hc.lv, Bool.and_self]
  · simp only [PyData.showable, PyData.showableAll, ha.sw, hb.sw, hc.sw, Bool.and_self]
  · simp only [PyData.depth, PyData.depthAll]; omega
  · simp only [PyData.weight, PyData.weightAll]; omega
theorem pool_ends {pool : List Int} (h : pool ≠ []) : ∃ lo ∈ pool, ∃ hi ∈ pool, atI (pool.map PyData.int) 0 = some (.int lo) ∧ atI (pool.map PyData.int) (-1) = some (.int hi) := by
  cases pool with
  | nil => exact absurd rfl h
  | cons x xs =>
    refine ⟨x, by simp, (x :: xs).getLast (by simp), List.getLast_mem _, atI_zero _ _, ?_⟩
    have gen : ∀ (l i : List Int) (z : Int), i ++ [z] = l → atI (l.map PyData.int) (-1) = some (.int z) := fun l i z e => by
      rw [← e, List.map_append]
      exact atI_last _ _
    exact gen _ _ _ (List.dropLast_concat_getLast (l := x :: xs) (by simp))
theorem rise_len : ∀ {ns ks : List Int}, ks.Pairwise (· < ·) → (∀ k, k ∈ ks → k ∈ ns) → ks.length ≤ ns.length
  | ns, [], _, _ => Nat.zero_le _
  | ns, k :: ks, pw, hm => by
    obtain ⟨h1, h2⟩ := List.pairwise_cons.mp pw
    have hk := hm k (by simp)
    have r := rise_len (ns := ns.erase k) h2 fun j hj => (List.mem_erase_of_ne (by have := h1 j hj; omega)).mpr (hm j (by simp [hj]))
    have e := List.length_erase_of_mem hk
    have : 0 < ns.length := List.length_pos_of_mem hk
    rw [List.length_cons]
    omega
end Z

/-! Z45: the end of a law whose def is promised by FnG: the call behind the top, a Hook that tells also that the system's dict of modules stands. -/
namespace Z
open PySem PySem.Spec PyProof.Rows L2
/-- the object at the system's dict of modules is a dict -/
def isSys : Option Obj → Bool
  | some ⟨_, _, .dict _ _, _⟩ => true
  | _ => false
theorem isSys_ok {o : Option Obj} (h : isSys o = true) : ∃ ob es n, o = some ob ∧ ob.data = .dict es n := by
  unfold isSys at h
  split at h
  · exact ⟨_, _, _, rfl, rfl⟩
  · cases h
def SysAt (h : Heap) : Prop := ∃ ob es n, h.get? sysModules = some ob ∧ ob.data = .dict es n
def hookZ (n : Nat) (fa : List He.Fa) (fn : List He.DefD) : PySem.W.Hook where
  α := He.AlD × Bool
  obs := fun s => (He.obsDG n fa fn s.heap.get?, isSys (s.heap.get? sysModules))
  val := fun _ => (He.valD fn, true)
  says := fun w h => (He.hookD n fa fn).says w h ∧ SysAt h
  of := fun w s e => ⟨(He.hookD n fa fn).of w s (congrArg Prod.fst e), isSys_ok (congrArg Prod.snd e)⟩
  keeps := fun w h h' q k => ⟨(He.hookD n fa fn).keeps w h h' q.1 k, let ⟨ob, es, m, e, d⟩ := q.2; ⟨ob, es, m, k _ _ e, d⟩⟩
def obZ (n : Nat) (fa : List He.Fa) (fn : List He.DefD) (s : PySem.W.SharedT) : He.AlD × Bool := (He.obsDG n fa fn (HandSHeadRun.getT s), isSys (HandSHeadRun.getT s sysModules))
theorem obZ_eq {n : Nat} {fa : List He.Fa} {fn : List He.DefD} (s : PySem.W.SharedT) : obZ n fa fn s = (hookZ n fa fn).obs s.abs := by
  unfold obZ
  rw [HandSHeadRun.getT_eq s sysModules, He.obsDG_eq (HandSHeadRun.getT_eq s)]
  rfl
section
variable {P : Program} {w : World} {K : PySem.W.Frag} {mg mb : Str → Option Value} {s₁ : Shared} {a : Addr} {vs : List Value} {H : Hp}
/-- nothing but the script is tracked: the ground below -/
theorem ground0 (KX : K.In s₁.heap) (hm : s₁.heap.Ns mainGlobals mg) (hb : s₁.heap.Ns builtinsNs mb) (hbb : ∀ x : Str, x ≠ "__name__" → mb x = bootBuiltins x) (hlim : s₁.heap.NoLimit) (hg : s₁.gens = #[]) (sys : SysAt s₁.heap)
    (ha : s₁.heap.get? a = some { cls := .type "list", data := .seq vs.toArray }) (one : ∀ b u, H b = some u → b = a ∧ K.lookup a = none) (hok : HOk P w H s₁.heap) :
    Env0 P w K mg (hidT s₁.heap H) callerA [] s₁ H ∧ K.In (hidT s₁.heap H) ∧ (hidT s₁.heap H).Ns mainGlobals mg ∧ ∃ o, (hidT s₁.heap H).get? sysModules = some o := by
  have away : ∀ {b : Addr}, (b = a → False) ∨ (∃ o, K.lookup b = some o) → H b = none := fun {b} q => by
    cases e : H b with
    | none => rfl
    | some u =>
      obtain ⟨e1, e2⟩ := one b u e
      rcases q with q | ⟨o, q⟩
      · exact (q e1).elim
      · rw [e1, e2] at q; cases q
  have notA : ∀ {b : Addr} {o : Obj} {es : Array DictEntry} {n : Nat}, s₁.heap.get? b = some o → o.data = .dict es n → H b = none := fun {b o es n} e d => away (.inl fun z => by
    rw [z, ha] at e
    cases e
    cases d)
  have put : ∀ {b : Addr} {m : Str → Option Value}, s₁.heap.Ns b m → (hidT s₁.heap H).Ns b m := fun {b m} q => by
    obtain ⟨o, es, n, e, d, r⟩ := q
    exact ⟨o, es, n, hidT_get e (notA e d), d, r⟩
  have kin : K.In (hidT s₁.heap H) := fun b o e => hidT_get (KX b o e) (away (.inr ⟨o, e⟩))
  have lim : (hidT s₁.heap H).NoLimit := by
    obtain ⟨mc, q1, q2⟩ := hlim
    exact ⟨mc, put q1, q2⟩
  obtain ⟨ob, es, n, e, d⟩ := sys
  exact ⟨⟨rfl, ⟨kin, put hm, ⟨mb, put hb, hbb⟩, lim⟩, fun b o q => of_hidT q, by rw [hidT_size]; exact Nat.le_refl _, trivial, fun b q => (by cases q), hok, .of_eq hg⟩, kin, put hm, ob, hidT_get e (notA e d)⟩
/-- the law's call behind the top -/
theorem lawG {k : Nat} {fa : Addr} {fd : FuncData} {x : Str} {sp : Sp} {ns : List Int} (KX : K.In s₁.heap) (hm : s₁.heap.Ns mainGlobals mg) (hb : s₁.heap.Ns builtinsNs mb) (hbb : ∀ x : Str, x ≠ "__name__" → mb x = bootBuiltins x)
    (hlim : s₁.heap.NoLimit) (hg : s₁.gens = #[]) (sys : SysAt s₁.heap) (ha : s₁.heap.get? a = some { cls := .type "list", data := .seq vs.toArray }) (hi : IntsAre vs ns) (hl : ns.length ≤ sizeLine) (hr : RoomZ k callerA)
    (G : ∀ base : Heap, K.In base → base.Ns mainGlobals mg → (∃ o, base.get? sysModules = some o) → FnG ⟨P, w, K, mg, base⟩ CX0 k fa fd [x] sp) (hbind : ∀ (s : Shared) (u : Value), BindsTo s fd ⟨[u], []⟩ [(x, u)])
    (hsp : ∀ H : Hp, SqL K H a (ns.map V.int) → sp [.ref a] H (fun v _ => v = .bl true) fun _ _ _ => False) :
    codeAny (model P w) callerA (.call (.ref fa) ⟨[.ref a], []⟩) (fun r s' => r = .ok (.ret (.bool true)) ∧ OldK s₁.heap s'.heap ∧ s'.os = s₁.os ∧ AllBare s'.gens) s₁ := by
  have rv := vals_ints hi
  have run : ∀ H : Hp, SqL K H a (ns.map V.int) → (∀ b u, H b = some u → b = a ∧ K.lookup a = none ∧ ∃ xs, u = .frz { cls := .type "list", data := .seq vs.toArray } (.lst xs)) → HOk P w H s₁.heap →
      codeAny (model P w) callerA (.call (.ref fa) ⟨[.ref a], []⟩) (fun r s' => r = .ok (.ret (.bool true)) ∧ OldK s₁.heap s'.heap ∧ s'.os = s₁.os ∧ AllBare s'.gens) s₁ := by
    intro H sq one hok
    obtain ⟨e0, k1, k2, k3⟩ := ground0 KX hm hb hbb hlim hg sys ha (fun b u e => ⟨(one b u e).1, (one b u e).2.1⟩) hok
    have c := (G _ k1 k2 k3).run callerA [] s₁ H ⟨[.ref a], []⟩ [.ref a] [.ref a] _ _ hr e0 (hbind s₁ _) (.cons rfl .nil) (hsp H sq)
    refine codeAny_mono c ?_
    rintro (e | fl) s' q
    · exact q.elim
    · cases fl with
      | ret u =>
        obtain ⟨v, H', q1, q2, q3, q4, q5, q6⟩ := q
        subst q6
        obtain rfl : u = .bool true := q5
        refine ⟨rfl, OldK.of_keep fun b o e => ?_, q1, q2⟩
        cases eb : H b with
        | none => exact q3.keep b o e eb (fun z => by cases z) (fun z => by cases z)
        | some u =>
          obtain ⟨rfl, _, xs, rfl⟩ := one b u eb
          have before := (hok b _ eb).1
          have after := (q4 b _ (q3.frzs b _ _ eb)).1
          rw [e] at before
          rw [after, ← before]
      | next => exact q.elim
      | brk => exact q.elim
      | cont => exact q.elim
  cases hk : K.lookup a with
  | some o =>
    have e := KX a o hk
    rw [ha] at e
    cases e
    exact run (fun _ => none) (.inr ⟨_, vs.toArray, _, hk, rfl, rfl, rfl, by rw [List.size_toArray, hi.length]; exact hl, by simpa using rv⟩) (fun b u z => by cases z) fun b u z => by cases z
  | none =>
    have lk : ∀ b u, (if b = a then some (HO.frz { cls := .type "list", data := .seq vs.toArray } (.lst (ns.map V.int))) else none) = some u → b = a ∧ u = .frz { cls := .type "list", data := .seq vs.toArray } (.lst (ns.map V.int)) := fun b u z => by
      by_cases q : b = a
      · rw [if_pos q] at z; cases z; exact ⟨q, rfl⟩
      · rw [if_neg q] at z; cases z
    refine run (fun b => if b = a then some (.frz { cls := .type "list", data := .seq vs.toArray } (.lst (ns.map V.int))) else none) (.inl (.inr ⟨_, if_pos rfl⟩)) (fun b u z => ?_) fun b u z => ?_
    · obtain ⟨q1, q2⟩ := lk b u z
      exact ⟨q1, hk, _, q2⟩
    · obtain ⟨rfl, rfl⟩ := lk b u z
      exact ⟨ha, by rw [List.length_map]; exact hl, vs, _, rv, ha⟩
end
theorem room0 {k : Nat} (h : Room k callerA) : RoomZ k callerA := ⟨h, rfl⟩
/-- a law of a script of whole numbers, by its def's promise -/
theorem walkG {l : PySem.W.OpenLaw} {n k : Nat} {q : Program} {loose : List Str} {XP : (Str → Option Value) → Heap → Prop} {d : DefRec} {x : Str} {hn1 : Nat} {fa : List He.Fa} {fn : List He.DefD}
    (hn : l.most = some n) (hn2 : n ≤ sizeLine) (hdf : d.params.defaults = []) (hr : RoomZ k callerA)
    (F : ∀ (w : World) (K : PySem.W.Frag) (mg : Str → Option Value) (f : Addr) (h : Heap), K.In h → He.SaysD fa fn K → h.Ns mainGlobals mg → mg d.name = some (.ref f) →
      ∃ (fd : FuncData) (sp : Sp), (∀ (s : Shared) (u : Value), BindsTo s fd ⟨[u], []⟩ [(x, u)]) ∧
        (∀ (H : Hp) (a : Addr) (ns : List Int), ns.length ≤ n → SqL K H a (ns.map V.int) → sp [.ref a] H (fun v _ => v = .bl true) fun _ _ _ => False) ∧
        ∀ base : Heap, K.In base → base.Ns mainGlobals mg → (∃ o, base.get? sysModules = some o) → FnG ⟨l.prog, w, K, mg, base⟩ CX0 k f fd [x] sp) :
    PySem.W.WalkO q loose XP (hookZ hn1 fa fn).says l.row.toRowW d [] (fun f vs => PySem.call f vs) := by
  refine Att.attach_call hn hdf fun w s₀ s₁ mg mb f o pm cd doc a vs ns G Y ho hd hcd hmg hobj hints hlen hg => ?_
  obtain ⟨⟨K, KX, c⟩, sys⟩ := Y
  obtain ⟨fd, sp, q1, q2, q3⟩ := F w K mg f _ KX c G.T.g hmg
  exact lawG KX G.T.g G.T.b G.T.builtins G.T.nolimit hg sys hobj hints (Nat.le_trans hlen hn2) hr q3 q1 fun H sq => q2 H a ns hlen sq
end Z

/-! Z46: a def's promise over HandS's heaps (FnG); what the bag's maker promises; the law's start. -/
namespace Z
open PySem PySem.Spec PyProof.Rows L2
/-- THE RULE for a def, promised over heaps -/
theorem fg_of {T : Top} {x : Str} {st : Stmt} {N ps : List Str} {k : Nat} {f : Addr} {fd : FuncData} {sp : Sp} (F : Fun T.K x x st f fd) (Sc : FnScope N ps (defScope st)) (len : ∀ vs H Q E, sp vs H Q E → vs.length = ps.length)
    (body : ∀ (cdv : Value) (A : Around) (outer : List Env) (s : Shared) (H : Hp) (vs : List V) (Q : VK) (E : XK), RoomZ k (A.deeper (envOfC x (defScope st) s.heap.objs.size f cdv)) → sp vs H Q E →
      wSs (dcx T x st N f cdv A outer s H E) (defBody st) { nx := fun _ H' => Q .non H', rt := Q } (L2.start N vs) H) : FnG T CX0 (k + 1) f fd ps sp := by
  refine ⟨len, fun A outer s H args us vs Q E hr e0 hB r hsp => ?_⟩
  obtain ⟨oc, od, kV, doc, pm, an, cdv, ct, osl, rfl, lk, hcd⟩ := F.ex
  have KX : T.K.In s.heap := e0.mod.kin.keeps fun b o e => (e0.bs b o e).1
  have lim : s.heap.NoLimit := e0.mod.nolimit.keeps fun b o e => (e0.bs b o e).1
  have kinds : ∀ y ∈ ps.zip us, (defScope st).names.lookup y.1 = some .local ∨ ((defScope st).names.lookup y.1 = some .cell ∧ ((cellsFrom (s.heap.objs.size + 1) (defScope st).names []).lookup y.1).isSome = true) := by
    rintro ⟨n, v⟩ hy
    exact (Sc.par n (List.of_mem_zip hy).1).imp id fun q => ⟨q, PySem.W.cellsFrom_some _ _ _ (.inl q)⟩
  refine codeAny_call_function hr.r.depth (KX _ _ lk) rfl Sc.co Sc.gen rfl (PySem.W.codeRec_of KX hcd) (hB _ _ _ _ ?_)
  refine wpAny_newFunctionEnv_cells Sc.kind kinds fun env he s1 x' => ?_
  subst he
  refine ⟨lim.keeps x'.toInCall.keep, codeAny_func ?_⟩
  have b := body cdv A outer s H vs Q E (hr.deeper _) hsp
  have I : Inv (cxOf CX0 T.P T.w T.K T.mg T.base N x (defScope st) f cdv A outer s H E) [] (L2.start N vs) H s1 := inv_start Sc hr.r.hd e0 (len _ _ _ _ hsp) r x'
  have fin : ∀ {σ' : St} {H' : Hp} {v : V} {u : Value} {s' : Shared}, Inv (dcx T x st N f cdv A outer s H E) [] σ' H' s' → RelV v u → Q v H' → CE outer T.P T.w H s Q u s' :=
    fun J rv q => ⟨_, _, J.os, J.bare, J.base, J.hok, rv, q⟩
  refine wpAny_mono (b [] s1 (I.wish _)) (fun fl s' hs => ?_) fun e s' hs => False.elim hs
  cases fl with
  | ret u =>
    obtain ⟨v, σ', H', J, rv, q⟩ := hs
    exact fin J rv q
  | next =>
    obtain ⟨σ', H', J, q⟩ := hs
    exact fin (v := V.non) (u := Value.none) J rfl q
  | brk =>
    obtain ⟨_, _, _, q⟩ := hs
    exact False.elim q
  | cont =>
    obtain ⟨_, _, _, q⟩ := hs
    exact False.elim q
def absI (i : Int) : Int := if i < 0 then -i else i
/-- the bag is made of the script's numbers -/
def spBag (K : PySem.W.Frag) : Sp := fun vs H Q _ => ∃ (a : Addr) (ns : List Int), vs = [.ref a] ∧ SqL K H a (ns.map V.int) ∧ ns.length ≤ 63 ∧
  ∀ H' p q, Same H H' → H p = none → H q = none → p ≠ q → H' p = some (.lst [.int 0, .int 1234567891, .int 0, .ref q]) → H' q = some (.lst ((ns.map absI).map V.int)) → Q (.ref p) H'
theorem cut63 {ns : List Int} (h : ns.length ≤ 63) : cutV (ns.map V.int) none (some 63) = ns.map V.int := by
  unfold cutV
  rw [sx (by decide)]
  show ((ns.map V.int).drop 0).take (min (Int.toNat 63) (ns.map V.int).length - 0) = _
  rw [List.drop_zero, Nat.sub_zero, List.length_map, Nat.min_eq_right (by simpa using h), ← List.length_map (f := V.int), List.take_length]
end Z
namespace Z
open PySem PySem.Spec PyProof.Rows L2
theorem funD_fun {K : PySem.W.Frag} {x : Str} {st : Stmt} {f : Addr} {fd : FuncData} (F : FunD K x x (defArgs st) (defBody st) (defScope st) [] [] f fd) : Fun K x x st f fd := by
  obtain ⟨oc, od, dV, kV, doc, pm, an, cdv, ct, osl, e1, e2, e3, e4, _⟩ := F.ex
  rcases e4 with ⟨_, e4⟩ | ⟨e4, _⟩
  · subst e4
    exact ⟨⟨oc, od, kV, doc, pm, an, cdv, ct, osl, e1, e2, e3⟩, F.kp⟩
  · exact absurd rfl e4
def spLaw (K : PySem.W.Frag) : Sp := fun vs H Q _ => ∃ (a : Addr) (ns : List Int), vs = [.ref a] ∧ SqL K H a (ns.map V.int) ∧ ns.length ≤ 63 ∧ ∀ H', Q (.bl true) H'
def bag0 (ns : List Int) : Bag := ⟨0, 1234567891, 0, ns.map absI⟩
theorem bag0_good {ns : List Int} (h : ns.length ≤ 63) : (bag0 ns).Good := ⟨by show (0 : Int) ≤ 0; decide, by show (0 : Int) ≤ 1234567891; decide, by show (1234567891 : Int) < 2147483647; decide, by show (0 : Int) ≤ 0; decide, by show (ns.map absI).length ≤ 63; rw [List.length_map]; exact h, fun c hc => by
  obtain ⟨n, _, rfl⟩ := List.mem_map.mp hc
  unfold absI
  split <;> omega⟩
/-- the rest of a law's body, started with the bag alone -/
theorem law_rest {X : Cx} {st : List Stmt} {Γ : GS} {ns : List Int} {σ : St} {H : Hp} {p q : Addr} {Q : V → Hp → Prop} (h : ZSs X st Γ [bagO (bag0 ns)] { nx := fun _ _ => False, rt := fun w _ => w = .d (.bool true) })
    (np : p ≠ q) (hp : H p = some (.lst [.int 0, .int 1234567891, .int 0, .ref q])) (hq : H q = some (.lst ((ns.map absI).map V.int))) (hl : σ.length = Γ.length) (hs : σ[1]? = some (some (.ref p))) (hΓ : ∀ i w, Γ[i]? = some (some w) → i = 1 ∧ w = .m 0)
    (hQ : ∀ H', Q (.bl true) H') : wSs X st { nx := fun _ H' => Q .non H', rt := Q } σ H := by
  have nF : upd (fun _ => none) q (.lst ((ns.map absI).map V.int)) p = none := upd_ne np
  have R : Rep (upd (fun _ => none) q (.lst ((ns.map absI).map V.int))) H [p] [bagO (bag0 ns)] := by
    refine ⟨fun b x e => ?_, rfl, by simp, fun b hb => ?_, fun k a mo h1 h2 => ?_⟩
    · by_cases z : b = q
      · rw [z, upd_same] at e; cases e; rw [z]; exact hq
      · rw [upd_ne z] at e; cases e
    · rw [List.mem_singleton.mp hb]; exact ⟨_, hp⟩
    · cases k with
      | zero =>
        simp only [List.getElem?_cons_zero, Option.some.injEq] at h1 h2
        subst h1 h2
        refine .inr ⟨nF, _, hp, _, rfl, .cons (At.int 0) (.cons (At.int _) (.cons (At.int 0) (.cons ?_ .nil)))⟩
        exact At.lst upd_same .of_ints
      | succ k => simp at h1
  have S : Slots (upd (fun _ => none) q (.lst ((ns.map absI).map V.int))) [p] σ Γ := ⟨hl, fun i w e => by
    obtain ⟨rfl, rfl⟩ := hΓ i w e
    exact ⟨_, hs, RW.m rfl⟩⟩
  refine (h _ [p] σ H R S).mono ⟨?_, ?_, ?_, ?_⟩
  · rintro σ' H' ⟨_, _, _, _, _, _, _, q⟩
    exact False.elim q
  · rintro v H' ⟨_, _, _, w, _, _, r, rfl⟩
    rw [At.bl_ r]
    exact hQ H'
  · rintro σ' H' ⟨_, _, _, _, _, _, _, q⟩
    exact False.elim q
  · rintro σ' H' ⟨_, _, _, _, _, _, _, q⟩
    exact False.elim q
end Z

/-! S1: what a piece of code does as a function (Res), and that the code does it. -/
namespace Z
open PySem PySem.Spec PyProof.Rows L2
/-- an exception: its class's name, its fields -/
structure Exc where
  cls : Str
  fs : List (Str × PyData)
/-- what comes of a piece of code: a value, an exception, or nothing is told -/
inductive Res (α : Type) where
  | ok (a : α) (M : MS)
  | ex (x : Exc) (M : MS)
  | bad
def Res.bind {α β : Type} : Res α → (α → MS → Res β) → Res β
  | .ok a M, k => k a M
  | .ex x M, _ => .ex x M
  | .bad, _ => .bad
def Res.of {α : Type} : Option (α × MS) → Res α
  | some (a, M) => .ok a M
  | none => .bad
@[simp] theorem bind_ok {α β : Type} (a : α) (M : MS) (k : α → MS → Res β) : (Res.ok a M).bind k = k a M := rfl
@[simp] theorem bind_ex {α β : Type} (x : Exc) (M : MS) (k : α → MS → Res β) : (Res.ex x M : Res α).bind k = .ex x M := rfl
@[simp] theorem bind_bad {α β : Type} (k : α → MS → Res β) : (Res.bad : Res α).bind k = .bad := rfl
@[simp] theorem of_some {α : Type} (a : α) (M : MS) : Res.of (some (a, M)) = .ok a M := rfl
@[simp] theorem of_none {α : Type} : Res.of (none : Option (α × MS)) = .bad := rfl
abbrev EF := GS → MS → Res W
abbrev TF := GS → MS → Res Bool
abbrev AF := GS → MS → Res (List W)

/-! ### exceptions as they stand -/
def ExcM (mg : Str → Option Value) (F : Hp) (x : Exc) (cls : Value) (d : Option Addr) : Prop :=
  ∃ C, mg x.cls = some (.ref C) ∧ cls = .ref C ∧ ((x.fs = [] ∧ d = none) ∨ ∃ dx vs, d = some dx ∧ F dx = some (.xd vs) ∧ Paired (fun (p : Str × V) (q : Str × PyData) => p.1 = q.1 ∧ At F p.2 q.2) vs x.fs)
abbrev ExcIs (X : Cx) := ExcM X.mg
def XAcc (X : Cx) (F : Hp) (ι : List Addr) (σ : St) (H : Hp) (x : Exc) (M' : MS) : Prop :=
  ∃ W, Takes X W ∧ ∀ F' ι' H' cls d, Ext F ι H F' ι' H' → Rep F' H' ι' M' → ExcIs X F' x cls d → W cls d σ H'
def Acc (X : Cx) (F : Hp) (ι : List Addr) (σ : St) (H : Hp) {α : Type} : Res α → Prop
  | .ok _ _ => True
  | .ex x M' => XAcc X F ι σ H x M'
  | .bad => False
theorem XAcc.step {X : Cx} {F F1 H H1 : Hp} {ι ι1 : List Addr} {σ : St} {x : Exc} {M' : MS} (h : XAcc X F ι σ H x M') (E : Ext F ι H F1 ι1 H1) : XAcc X F1 ι1 σ H1 x M' :=
  let ⟨W, tk, k⟩ := h
  ⟨W, tk, fun F' ι' H' cls d E' R q => k F' ι' H' cls d (E.trans E') R q⟩
theorem Acc.step {α : Type} {X : Cx} {F F1 H H1 : Hp} {ι ι1 : List Addr} {σ : St} {r : Res α} (h : Acc X F ι σ H r) (E : Ext F ι H F1 ι1 H1) : Acc X F1 ι1 σ H1 r := by
  cases r with
  | ok _ _ => trivial
  | ex x M' => exact XAcc.step h E
  | bad => exact h
def PR (F : Hp) (ι : List Addr) (H : Hp) : Res W → VK
  | .ok w M' => Post F ι H fun w' M'' => w' = w ∧ M'' = M'
  | _ => fun _ _ => False
def PRT (F : Hp) (ι : List Addr) (H : Hp) : Res Bool → Bool → Hp → Prop
  | .ok w M' => PostT F ι H fun w' M'' => w' = w ∧ M'' = M'
  | _ => fun _ _ => False
def PRA (F : Hp) (ι : List Addr) (H : Hp) : Res (List W) → List V → Hp → Prop
  | .ok w M' => PostA F ι H fun w' M'' => w' = w ∧ M'' = M'
  | _ => fun _ _ => False
theorem PR.ext {F F1 H H1 H2 : Hp} {ι ι1 : List Addr} {r : Res W} {v : V} (x : Ext F ι H F1 ι1 H1) (p : PR F1 ι1 H1 r v H2) : PR F ι H r v H2 := by
  cases r with
  | ok w M' => exact Post.ext (Φ := fun w' M'' => w' = w ∧ M'' = M') x p
  | ex _ _ => exact p
  | bad => exact p
theorem PRT.ext {F F1 H H1 H2 : Hp} {ι ι1 : List Addr} {r : Res Bool} {v : Bool} (x : Ext F ι H F1 ι1 H1) (p : PRT F1 ι1 H1 r v H2) : PRT F ι H r v H2 := by
  cases r with
  | ok w M' => exact PostT.ext (Φ := fun w' M'' => w' = w ∧ M'' = M') x p
  | ex _ _ => exact p
  | bad => exact p
theorem PRA.ext {F F1 H H1 H2 : Hp} {ι ι1 : List Addr} {r : Res (List W)} {v : List V} (x : Ext F ι H F1 ι1 H1) (p : PRA F1 ι1 H1 r v H2) : PRA F ι H r v H2 := by
  cases r with
  | ok w M' => exact PostA.ext (Φ := fun w' M'' => w' = w ∧ M'' = M') x p
  | ex _ _ => exact p
  | bad => exact p

/-! ### the code does what the function says -/
def SR (X : Cx) (e : Expr) (Γ : GS) (M : MS) (r : Res W) : Prop := ∀ F ι σ H, Rep F H ι M → Slots F ι σ Γ → Acc X F ι σ H r → wE X e σ H (PR F ι H r)
def SRT (X : Cx) (e : Expr) (Γ : GS) (M : MS) (r : Res Bool) : Prop := ∀ F ι σ H, Rep F H ι M → Slots F ι σ Γ → Acc X F ι σ H r → wT X e σ H (PRT F ι H r)
def SRW (X : Cx) (e : Expr) (Γ : GS) (M : MS) (r : Res Bool) : Prop := ∀ F ι σ H, Rep F H ι M → Slots F ι σ Γ → Acc X F ι σ H r → wW X e σ H (PRT F ι H r)
def SRA (X : Cx) (es : List Expr) (Γ : GS) (M : MS) (r : Res (List W)) : Prop := ∀ F ι σ H, Rep F H ι M → Slots F ι σ Γ → Acc X F ι σ H r → wA X es σ H (PRA F ι H r)
def SE (X : Cx) (e : Expr) (f : EF) : Prop := ∀ Γ M, SR X e Γ M (f Γ M)
def ST (X : Cx) (e : Expr) (f : TF) : Prop := ∀ Γ M, SRT X e Γ M (f Γ M)
def SW (X : Cx) (e : Expr) (f : TF) : Prop := ∀ Γ M, SRW X e Γ M (f Γ M)
def SA (X : Cx) (es : List Expr) (f : AF) : Prop := ∀ Γ M, SRA X es Γ M (f Γ M)
section
variable {X : Cx} {a b c e : Expr} {es : List Expr} {pos : Pos} {Γ : GS} {M : MS}
theorem SR.bad : SR X e Γ M .bad := fun _ _ _ _ _ _ a => False.elim a
theorem SR.ze {w : W} {M' : MS} (h : SR X e Γ M (.ok w M')) {Φ : W → MS → Prop} (k : Φ w M') : ZE X e Γ M Φ := fun F ι σ H R S =>
  (h F ι σ H R S trivial).mono fun _ _ ⟨F', ι', M2, w2, E, R', r, e1, e2⟩ => ⟨F', ι', M2, w2, E, R', r, by rw [e1, e2]; exact k⟩
theorem SR.of {w : W} {M' : MS} (h : ZE X e Γ M fun w' M'' => w' = w ∧ M'' = M') : SR X e Γ M (.ok w M') := fun F ι σ H R S _ => h F ι σ H R S
theorem SRT.bad : SRT X e Γ M .bad := fun _ _ _ _ _ _ a => False.elim a
theorem SRT.ze {w : Bool} {M' : MS} (h : SRT X e Γ M (.ok w M')) {Φ : Bool → MS → Prop} (k : Φ w M') : ZT X e Γ M Φ := fun F ι σ H R S =>
  (h F ι σ H R S trivial).mono fun _ _ ⟨F', ι', M2, E, R', e1, e2⟩ => ⟨F', ι', M2, E, R', by rw [e1, e2]; exact k⟩
theorem SRT.of {w : Bool} {M' : MS} (h : ZT X e Γ M fun w' M'' => w' = w ∧ M'' = M') : SRT X e Γ M (.ok w M') := fun F ι σ H R S _ => h F ι σ H R S
theorem SRW.bad : SRW X e Γ M .bad := fun _ _ _ _ _ _ a => False.elim a
theorem SRW.ze {w : Bool} {M' : MS} (h : SRW X e Γ M (.ok w M')) {Φ : Bool → MS → Prop} (k : Φ w M') : ZW X e Γ M Φ := fun F ι σ H R S =>
  (h F ι σ H R S trivial).mono fun _ _ ⟨F', ι', M2, E, R', e1, e2⟩ => ⟨F', ι', M2, E, R', by rw [e1, e2]; exact k⟩
theorem SRW.of {w : Bool} {M' : MS} (h : ZW X e Γ M fun w' M'' => w' = w ∧ M'' = M') : SRW X e Γ M (.ok w M') := fun F ι σ H R S _ => h F ι σ H R S
theorem SRA.bad : SRA X es Γ M .bad := fun _ _ _ _ _ _ a => False.elim a
theorem SRA.ze {w : List W} {M' : MS} (h : SRA X es Γ M (.ok w M')) {Φ : List W → MS → Prop} (k : Φ w M') : ZA X es Γ M Φ := fun F ι σ H R S =>
  (h F ι σ H R S trivial).mono fun _ _ ⟨F', ι', M2, w2, E, R', r, e1, e2⟩ => ⟨F', ι', M2, w2, E, R', r, by rw [e1, e2]; exact k⟩
theorem SRA.of {w : List W} {M' : MS} (h : ZA X es Γ M fun w' M'' => w' = w ∧ M'' = M') : SRA X es Γ M (.ok w M') := fun F ι σ H R S _ => h F ι σ H R S
/-- an exception of the first part -/
theorem SR.ex1 {x : Exc} {M' : MS} (h : SR X a Γ M (.ex x M')) (k : ∀ σ H Q, wE X a σ H (fun _ _ => False) → wE X e σ H Q) : SR X e Γ M (.ex x M') := fun F ι σ H R S A => k σ H _ (h F ι σ H R S A)
/-- an exception of the second part -/
theorem SR.ex2 {x : Exc} {v : W} {M1 M' : MS} (h : SR X a Γ M (.ok v M1)) (h2 : SR X b Γ M1 (.ex x M')) (k : ∀ σ H Q, wE X a σ H (fun _ H1 => wE X b σ H1 fun _ _ => False) → wE X e σ H Q) : SR X e Γ M (.ex x M') := fun F ι σ H R S A =>
  k σ H _ ((h F ι σ H R S trivial).mono fun _ H1 ⟨F1, ι1, M2, w2, E, R1, r, e1, e2⟩ => by
    subst e2
    exact h2 F1 ι1 σ H1 R1 (E.slots S) (A.step E))
/-! glue -/
theorem sr_one {f : Res W} {op : W → MS → Option (W × MS)} (exa : ∀ σ H Q, wE X a σ H (fun _ _ => False) → wE X e σ H Q)
    (ok : ∀ Φ, ZE X a Γ M (fun x M1 => ∃ w M3, op x M1 = some (w, M3) ∧ Φ w M3) → ZE X e Γ M Φ) (ha : SR X a Γ M f) : SR X e Γ M (f.bind fun x M1 => Res.of (op x M1)) := by
  cases f with
  | bad => exact .bad
  | ex x M' => exact ha.ex1 exa
  | ok x M1 =>
    rw [bind_ok]
    cases ho : op x M1 with
    | none => exact .bad
    | some q => exact .of (ok _ (ha.ze ⟨_, _, ho, rfl, rfl⟩))
theorem sr_two {f : Res W} {g : MS → Res W} {op : W → W → MS → Option (W × MS)} (exa : ∀ σ H Q, wE X a σ H (fun _ _ => False) → wE X e σ H Q) (exb : ∀ σ H Q, wE X a σ H (fun _ H1 => wE X b σ H1 fun _ _ => False) → wE X e σ H Q)
    (ok : ∀ Φ, ZE X a Γ M (fun x M1 => ZE X b Γ M1 fun y M2 => ∃ w M3, op x y M2 = some (w, M3) ∧ Φ w M3) → ZE X e Γ M Φ) (ha : SR X a Γ M f) (hb : ∀ M1, SR X b Γ M1 (g M1)) :
    SR X e Γ M (f.bind fun x M1 => (g M1).bind fun y M2 => Res.of (op x y M2)) := by
  cases f with
  | bad => exact .bad
  | ex x M' => exact ha.ex1 exa
  | ok x M1 =>
    rw [bind_ok]
    have h2 := hb M1
    cases hg : g M1 with
    | bad => exact .bad
    | ex x M' => rw [hg] at h2; exact ha.ex2 h2 exb
    | ok y M2 =>
      rw [hg] at h2
      rw [bind_ok]
      cases ho : op x y M2 with
      | none => exact .bad
      | some q => exact .of (ok _ (ha.ze (h2.ze ⟨_, _, ho, rfl, rfl⟩)))
theorem sr_args {f : Res (List W)} {op : List W → MS → Option (W × MS)} (exa : ∀ σ H Q, wA X es σ H (fun _ _ => False) → wE X e σ H Q)
    (ok : ∀ Φ, ZA X es Γ M (fun x M1 => ∃ w M3, op x M1 = some (w, M3) ∧ Φ w M3) → ZE X e Γ M Φ) (ha : SRA X es Γ M f) : SR X e Γ M (f.bind fun x M1 => Res.of (op x M1)) := by
  cases f with
  | bad => exact .bad
  | ex x M' => exact fun F ι σ H R S A => exa σ H _ (ha F ι σ H R S A)
  | ok x M1 =>
    rw [bind_ok]
    cases ho : op x M1 with
    | none => exact .bad
    | some q => exact .of (ok _ (ha.ze ⟨_, _, ho, rfl, rfl⟩))

theorem ZA.mono' {Φ Φ' : List W → MS → Prop} (h : ZA X es Γ M Φ) (k : ∀ w M', Φ w M' → Φ' w M') : ZA X es Γ M Φ' := fun F ι σ H R S =>
  wA.mono (h F ι σ H R S) fun _ _ ⟨F', ι', M', w, a, b, c, d⟩ => ⟨F', ι', M', w, a, b, c, k w M' d⟩
def noStar : Expr → Bool
  | .Starred _ _ => false
  | _ => true
theorem star_of {e : Expr} {es : List Expr} {env : Env} (h : noStar e = true) : starEach (e :: es) env = (false, eval e env) :: starEach es env := by
  cases e <;> first | rfl | cases h
/-! ### arguments -/
def nilA : AF := fun _ M => .ok [] M
def consA (f : EF) (g : AF) : AF := fun Γ M => (f Γ M).bind fun x M1 => (g Γ M1).bind fun xs M2 => .ok (x :: xs) M2
theorem sa_nil : SA X [] nilA := fun Γ M => .of (za_nil ⟨rfl, rfl⟩)
theorem sa_cons {f : EF} {g : AF} (ha : SE X e f) (hb : SA X es g) (hs : starEach (e :: es) X.env = (false, eval e X.env) :: starEach es X.env := by exact star_of rfl) : SA X (e :: es) (consA f g) := fun Γ M => by
  have h1 := ha Γ M
  unfold consA
  cases hf : f Γ M with
  | bad => exact .bad
  | ex x M' =>
    rw [hf] at h1
    exact fun F ι σ H R S A => w_a (pa_cons pe_w pa_w hs) ((h1 F ι σ H R S A).mono fun _ _ q => False.elim q)
  | ok x M1 =>
    rw [hf] at h1
    have h2 := hb Γ M1
    rw [bind_ok]
    cases hg : g Γ M1 with
    | bad => exact .bad
    | ex y M' =>
      rw [hg] at h2
      refine fun F ι σ H R S A => w_a (pa_cons pe_w pa_w hs) ((h1 F ι σ H R S trivial).mono ?_)
      rintro v H1 ⟨F1, ι1, M2, w2, E, R1, r, e1, e2⟩
      subst e2
      exact (h2 F1 ι1 σ H1 R1 (E.slots S) (Acc.step (r := (.ex y M' : Res (List W))) A E)).mono fun _ _ q => False.elim q
    | ok ys M2 =>
      rw [hg] at h2
      exact .of (za_cons (h1.ze (h2.ze ⟨rfl, rfl⟩)) hs)

/-! ### names, constants -/
def getG (Γ : GS) (i : Nat) (M : MS) : Res W := match Γ[i]? with
  | some (some w) => .ok w M
  | _ => .bad
def nmE (i : Nat) : EF := fun Γ M => getG Γ i M
def kE (d : PyData) : EF := fun _ M => .ok (.d d) M
theorem se_nm (i : Nat) {x : Str} (hN : X.N[i]? = some x := by rfl) (hv : Vis X.env.scope x := by first | exact Or.inl rfl | exact Or.inr (Or.inl rfl) | exact Or.inr (Or.inr rfl))
    (hd : (x == ("__debug__" : Str)) = false := by decide) (hcd : (x == ("__classdict__" : Str)) = false := by decide) : SE X (.Name x pos) (nmE i) := fun Γ M => by
  unfold nmE getG
  split
  · rename_i w hw
    exact .of (ze_name i hw ⟨rfl, rfl⟩ hN hv hd hcd)
  · exact .bad
theorem se_int {i : Int} {j} : SE X (.Constant (.int i) j pos) (kE (.int i)) := fun Γ M => .of (ze_int ⟨rfl, rfl⟩)
theorem se_str {i : Str} {j} : SE X (.Constant (.str i) j pos) (kE (.str i)) := fun Γ M => .of (ze_str ⟨rfl, rfl⟩)
theorem se_bl {i : Bool} {j} : SE X (.Constant (.bool i) j pos) (kE (.bool i)) := fun Γ M => .of (ze_bl ⟨rfl, rfl⟩)
theorem se_non {j} : SE X (.Constant .none j pos) (kE .none) := fun Γ M => .of (ze_non ⟨rfl, rfl⟩)

/-! ### operators -/
theorem wE.imp {Q Q' : VK} {σ : St} {H : Hp} (h : wE X e σ H Q) (k : ∀ v H', Q v H' → Q' v H') : wE X e σ H Q' := h.mono k
theorem op_no {f : Value → Value → Sem Value} : OpR X f fun _ _ _ _ => False := fun _ _ _ _ _ _ _ _ _ _ _ _ h => False.elim h
theorem un_no {f : Value → Sem Value} : UnR X f fun _ _ _ => False := fun _ _ _ _ _ _ _ _ _ h => False.elim h
theorem bin_exa {op : Operator} {σ : St} {H : Hp} {Q : VK} (h : wE X a σ H fun _ _ => False) : wE X (.BinOp a op b pos) σ H Q := w_e (pe_op op_no pe_w pe_w) (h.mono fun _ _ q => False.elim q)
theorem bin_exb {op : Operator} {σ : St} {H : Hp} {Q : VK} (h : wE X a σ H fun _ H1 => wE X b σ H1 fun _ _ => False) : wE X (.BinOp a op b pos) σ H Q := w_e (pe_op op_no pe_w pe_w) h
def binE (op : W → W → MS → Option (W × MS)) (f g : EF) : EF := fun Γ M => (f Γ M).bind fun x M1 => (g Γ M1).bind fun y M2 => Res.of (op x y M2)
def unE (op : W → MS → Option (W × MS)) (f : EF) : EF := fun Γ M => (f Γ M).bind fun x M1 => Res.of (op x M1)
/-- an operator on values -/
def BinOk (X : Cx) (op : Operator) (g : W → W → MS → Option (W × MS)) : Prop :=
  ∀ a b pos Γ M Φ, ZE X a Γ M (fun x M1 => ZE X b Γ M1 fun y M2 => ∃ w M3, g x y M2 = some (w, M3) ∧ Φ w M3) → ZE X (.BinOp a op b pos) Γ M Φ
theorem se_bin {op : Operator} {g : W → W → MS → Option (W × MS)} {f1 f2 : EF} (ho : BinOk X op g) (ha : SE X a f1) (hb : SE X b f2) : SE X (.BinOp a op b pos) (binE g f1 f2) := fun Γ M =>
  sr_two (op := g) (fun _ _ _ h => bin_exa h) (fun _ _ _ h => bin_exb h) (fun Φ h => ho a b pos Γ M Φ h) (ha Γ M) fun M1 => hb Γ M1
end
end Z

/-! S2: operators, comparisons, tests, displays. -/
namespace Z
open PySem PySem.Spec PyProof.Rows L2
/-! ### cells read as data -/
def datW : W → Option PyData
  | .d x => some x
  | .m _ => none
def datsW : List W → Option (List PyData)
  | [] => some []
  | w :: ws => match datW w, datsW ws with
    | some d, some ds => some (d :: ds)
    | _, _ => none
def datKs : List (Key × W) → Option (List (Key × PyData))
  | [] => some []
  | q :: ws => match datW q.2, datKs ws with
    | some d, some ds => some ((q.1, d) :: ds)
    | _, _ => none
def rd (M : MS) : W → Option PyData
  | .d x => some x
  | .m k => match M[k]? with
    | some (.lst ws) => (datsW ws).map .list
    | some (.dic ks) => (datKs ks).map dictK
    | _ => none
@[simp] theorem datW_d (x : PyData) : datW (.d x) = some x := rfl
@[simp] theorem datsW_nil : datsW [] = some [] := rfl
@[simp] theorem datsW_map : ∀ ds : List PyData, datsW (ds.map .d) = some ds
  | [] => rfl
  | d :: ds => by rw [List.map_cons, datsW, datsW_map ds]; rfl
@[simp] theorem datKs_map : ∀ ds : List (Key × PyData), datKs (ds.map fun q => (q.1, .d q.2)) = some ds
  | [] => rfl
  | d :: ds => by rw [List.map_cons, datKs, datKs_map ds]; rfl
theorem datsW_ok : ∀ {ws : List W} {ds : List PyData}, datsW ws = some ds → ws = ds.map .d
  | [], _, h => by cases h; rfl
  | .m k :: ws, ds, h => by simp [datsW, datW] at h
  | .d x :: ws, ds, h => by
    rw [datsW, datW_d] at h
    cases e : datsW ws with
    | none => rw [e] at h; cases h
    | some es => rw [e] at h; cases h; rw [datsW_ok e]; rfl
theorem datKs_ok : ∀ {ws : List (Key × W)} {ds : List (Key × PyData)}, datKs ws = some ds → ws = ds.map fun q => (q.1, .d q.2)
  | [], _, h => by cases h; rfl
  | (k, .m j) :: ws, ds, h => by simp [datKs, datW] at h
  | (k, .d x) :: ws, ds, h => by
    rw [datKs, datW_d] at h
    cases e : datKs ws with
    | none => rw [e] at h; cases h
    | some es => rw [e] at h; cases h; rw [datKs_ok e]; rfl
@[simp] theorem rd_d (M : MS) (x : PyData) : rd M (.d x) = some x := rfl
theorem rd_m {M : MS} {w : W} {d : PyData} (h : rd M w = some d) : w = .d d ∨ (∃ j ds, w = .m j ∧ M[j]? = some (.lst (ds.map .d)) ∧ d = .list ds) ∨ ∃ j ks, w = .m j ∧ M[j]? = some (.dic (ks.map fun q => (q.1, W.d q.2))) ∧ d = dictK ks := by
  cases w with
  | d x => cases h; exact .inl rfl
  | m k =>
    unfold rd at h
    dsimp only at h
    cases e : M[k]? with
    | none => rw [e] at h; cases h
    | some mo =>
      rw [e] at h
      cases mo with
      | gone => cases h
      | dil ws => cases h
      | lst ws =>
        dsimp only at h
        cases q : datsW ws with
        | none => rw [q] at h; cases h
        | some ds => rw [q] at h; cases h; exact .inr (.inl ⟨k, ds, rfl, by rw [e, datsW_ok q], rfl⟩)
      | dic ws =>
        dsimp only at h
        cases q : datKs ws with
        | none => rw [q] at h; cases h
        | some ds => rw [q] at h; cases h; exact .inr (.inr ⟨k, ds, rfl, by rw [e, datKs_ok q], rfl⟩)
theorem rd_at {F H : Hp} {ι : List Addr} {M : MS} {w : W} {v : V} {d : PyData} (R : Rep F H ι M) (r : RW F ι v w) (h : rd M w = some d) : At H v d := by
  rcases rd_m h with rfl | ⟨j, ds, rfl, hm, rfl⟩ | ⟨j, ks, rfl, hm, rfl⟩
  · exact At.up R.sub r
  · obtain ⟨a, ha, rfl⟩ := r
    rcases R.at_ j a _ ha hm with z | ⟨_, o, ho, vs, rfl, q⟩
    · cases z
    · exact At.lst ho ((RWs.dat q).up R.sub)
  · obtain ⟨a, ha, rfl⟩ := r
    rcases R.at_ j a _ ha hm with z | ⟨_, o, ho, vs, rfl, q⟩
    · cases z
    · exact At.dic ho ((RKs.dat q).up R.sub)
/-- a list, data or cell -/
def lstD (M : MS) (w : W) : Option (List PyData) := match rd M w with
  | some (.list ds) => some ds
  | _ => none
theorem lstD_ok {M : MS} {w : W} {ds : List PyData} (h : lstD M w = some ds) : LstW w M ds := by
  unfold lstD at h
  cases e : rd M w with
  | none => rw [e] at h; cases h
  | some d =>
    rw [e] at h
    cases d with
    | list es =>
      cases h
      rcases rd_m e with rfl | ⟨j, ds', rfl, hm, q⟩ | ⟨j, ks, rfl, hm, q⟩
      · exact .inl rfl
      · cases q; exact .inr ⟨j, rfl, hm⟩
      · cases q
    | _ => cases h
/-- a list or a tuple, data or cell -/
def allD (M : MS) (w : W) : Option (List PyData) := match rd M w with
  | some (.list ds) => some ds
  | some (.tuple ds) => some ds
  | _ => none
theorem allD_ok {M : MS} {w : W} {ds : List PyData} (h : allD M w = some ds) : AllW w M ds := by
  unfold allD at h
  cases e : rd M w with
  | none => rw [e] at h; cases h
  | some d =>
    rw [e] at h
    cases d with
    | list es =>
      cases h
      rcases rd_m e with rfl | ⟨j, ds', rfl, hm, q⟩ | ⟨j, ks, rfl, hm, q⟩
      · exact .inl rfl
      · cases q; exact .inr (.inr ⟨j, rfl, hm⟩)
      · cases q
    | tuple es =>
      cases h
      rcases rd_m e with rfl | ⟨j, ds', rfl, hm, q⟩ | ⟨j, ks, rfl, hm, q⟩
      · exact .inr (.inl rfl)
      · cases q
      · cases q
    | _ => cases h
@[simp] theorem lstD_d (M : MS) (ds : List PyData) : lstD M (.d (.list ds)) = some ds := rfl
@[simp] theorem allD_l (M : MS) (ds : List PyData) : allD M (.d (.list ds)) = some ds := rfl
@[simp] theorem allD_t (M : MS) (ds : List PyData) : allD M (.d (.tuple ds)) = some ds := rfl

/-! ### arithmetic -/
def intV (ok : Int → Int → Bool) (g : Int → Int → Int) : W → W → MS → Option (W × MS)
  | .d (.int i), .d (.int j), M => if ok i j then some (.d (.int (g i j)), M) else none
  | _, _, _ => none
theorem intV_ok {ok : Int → Int → Bool} {g : Int → Int → Int} {x y w : W} {M M' : MS} (h : intV ok g x y M = some (w, M')) : ∃ i j, x = .d (.int i) ∧ y = .d (.int j) ∧ ok i j = true ∧ w = .d (.int (g i j)) ∧ M' = M := by
  unfold intV at h
  split at h
  · split at h
    · cases h; exact ⟨_, _, rfl, rfl, by assumption, rfl, rfl⟩
    · cases h
  · cases h
def subV : W → W → MS → Option (W × MS) := intV (fun _ _ => true) fun i j => i - j
def modV : W → W → MS → Option (W × MS) := intV (fun _ j => decide (0 < j)) fun i j => i % j
def fdivV : W → W → MS → Option (W × MS) := intV (fun _ j => decide (0 < j ∧ j < 1073741824)) fun i j => i / j
def powV : W → W → MS → Option (W × MS) := intV (fun i j => decide (0 ≤ j ∧ j ≤ 1000000 ∧ i.natAbs < 2 ^ 64)) fun i j => i ^ j.toNat
def mulV : W → W → MS → Option (W × MS) := intV (fun i j => decide ((-(2 ^ 64) < i ∧ i < 2 ^ 64) ∨ (-(2 ^ 64) < j ∧ j < 2 ^ 64))) fun i j => i * j
def chk {α : Type} (n : Nat) (r : Option α) : Option α := if n ≤ sizeLine then r else none
theorem chk_ok {α : Type} {n : Nat} {r : Option α} {a : α} (h : chk n r = some a) : n ≤ sizeLine ∧ r = some a := by
  unfold chk at h
  split at h
  · exact ⟨by assumption, h⟩
  · cases h
@[simp] theorem chk_of {α : Type} {n : Nat} {r : Option α} (h : n ≤ sizeLine) : chk n r = r := if_pos h
def addV : W → W → MS → Option (W × MS)
  | .d (.int i), .d (.int j), M => some (.d (.int (i + j)), M)
  | .d (.str i), .d (.str j), M => chk (i.length + j.length) (some (.d (.str (i ++ j)), M))
  | .d (.tuple i), .d (.tuple j), M => chk (i.length + j.length) (some (.d (.tuple (i ++ j)), M))
  | x, y, M => match lstD M x, lstD M y with
    | some i, some j => chk (i.length + j.length) (some (.d (.list (i ++ j)), M))
    | _, _ => none
section
variable {X : Cx} {a b c e : Expr} {es : List Expr} {pos : Pos} {Γ : GS} {M : MS} {k : Nat}
theorem so_sub : BinOk X .Sub subV := fun a b pos Γ M Φ h => ze_sub (h.mono fun x M1 h1 => h1.mono fun y M2 ⟨w, M3, e, φ⟩ => by
  obtain ⟨i, j, rfl, rfl, _, rfl, rfl⟩ := intV_ok e
  exact ⟨i, j, rfl, rfl, φ⟩)
theorem so_mod : BinOk X .Mod modV := fun a b pos Γ M Φ h => ze_mod (h.mono fun x M1 h1 => h1.mono fun y M2 ⟨w, M3, e, φ⟩ => by
  obtain ⟨i, j, rfl, rfl, q, rfl, rfl⟩ := intV_ok e
  exact ⟨i, j, rfl, rfl, of_decide_eq_true q, φ⟩)
theorem so_fdiv : BinOk X .FloorDiv fdivV := fun a b pos Γ M Φ h => ze_fdiv (h.mono fun x M1 h1 => h1.mono fun y M2 ⟨w, M3, e, φ⟩ => by
  obtain ⟨i, j, rfl, rfl, q, rfl, rfl⟩ := intV_ok e
  exact ⟨i, j, rfl, rfl, of_decide_eq_true (p := 0 < j ∧ j < 1073741824) q, φ⟩)
theorem so_pow : BinOk X .Pow powV := fun a b pos Γ M Φ h => ze_pow (h.mono fun x M1 h1 => h1.mono fun y M2 ⟨w, M3, e, φ⟩ => by
  obtain ⟨i, j, rfl, rfl, q, rfl, rfl⟩ := intV_ok e
  exact ⟨i, j, rfl, rfl, of_decide_eq_true (p := 0 ≤ j ∧ j ≤ 1000000 ∧ i.natAbs < 2 ^ 64) q, φ⟩)
theorem so_mul : BinOk X .Mult mulV := fun a b pos Γ M Φ h => ze_mul (h.mono fun x M1 h1 => h1.mono fun y M2 ⟨w, M3, e, φ⟩ => by
  obtain ⟨i, j, rfl, rfl, q, rfl, rfl⟩ := intV_ok e
  exact ⟨i, j, rfl, rfl, of_decide_eq_true (p := (-(2 ^ 64) < i ∧ i < 2 ^ 64) ∨ (-(2 ^ 64) < j ∧ j < 2 ^ 64)) q, φ⟩)
/-- x + y, lists as cells too -/
theorem ze_addR {Φ : W → MS → Prop} (h : ZE X a Γ M fun x M1 => ZE X b Γ M1 fun y M2 => AddW x y M2 Φ ∨ ∃ xs ys, LstW x M2 xs ∧ LstW y M2 ys ∧ xs.length + ys.length ≤ sizeLine ∧ Φ (.d (.list (xs ++ ys))) M2) : ZE X (.BinOp a .Add b pos) Γ M Φ :=
  z2 (pe_op (op_add.or (op_add_str.or (op_cat.or op_catA))) pe_w pe_w) h fun F ι H M v u x y Q R rx ry ψ hQ => by
    rcases ψ with (⟨i, j, rfl, rfl, φ⟩ | ⟨i, j, rfl, rfl, z, φ⟩ | ⟨i, j, rfl, rfl, z, φ⟩ | ⟨i, j, rfl, rfl, z, φ⟩) | ⟨i, j, hx, hy, z, φ⟩
    · exact .inl ⟨i, j, At.int_ rx, At.int_ ry, hQ _ _ (Post.dat R (At.int _) φ)⟩
    · exact .inr (.inl ⟨i, j, At.str_ rx, At.str_ ry, z, hQ _ _ (Post.dat R (At.str _) φ)⟩)
    · obtain ⟨p, vs, rfl, f1, r1⟩ := At.lst_ rx
      obtain ⟨q, us, rfl, f2, r2⟩ := At.lst_ ry
      exact .inr (.inr (.inl ⟨p, q, vs, us, rfl, rfl, R.sub _ _ f1, R.sub _ _ f2, by rw [r1.len, r2.len]; exact z, lay_lst R (r1.app r2) φ hQ⟩))
    · obtain ⟨p, vs, rfl, f1, r1⟩ := At.tup_ rx
      obtain ⟨q, us, rfl, f2, r2⟩ := At.tup_ ry
      refine .inr (.inr (.inr ⟨p, q, vs, us, rfl, rfl, .of (R.sub _ _ f1), .of (R.sub _ _ f2), by rw [r1.len, r2.len]; exact z, fun e => ?_, fun _ e => ?_, fun _ _ => lay_tup R (r1.app r2) φ hQ⟩))
      · subst e
        cases r1
        exact hQ _ _ (Post.ret R (show RW F ι (.ref q) (.d (.tuple j)) from .tup f2 r2) (by simpa using φ))
      · subst e
        cases r2
        exact hQ _ _ (Post.ret R (show RW F ι (.ref p) (.d (.tuple i)) from .tup f1 r1) (by simpa using φ))
    · obtain ⟨p, vs, rfl, f1, r1⟩ := hx.at R rx
      obtain ⟨q, us, rfl, f2, r2⟩ := hy.at R ry
      exact .inr (.inr (.inl ⟨p, q, vs, us, rfl, rfl, f1, f2, by rw [r1.len, r2.len]; exact z, lay_lst R (r1.app r2) φ hQ⟩))
theorem so_add : BinOk X .Add addV := fun a b pos Γ M Φ h => ze_addR (h.mono fun x M1 h1 => h1.mono fun y M2 ⟨w, M3, e, φ⟩ => by
  unfold addV at e
  split at e
  · cases e; exact .inl (.int φ)
  · obtain ⟨z, e⟩ := chk_ok e; cases e; exact .inl (.str z φ)
  · obtain ⟨z, e⟩ := chk_ok e; cases e; exact .inl (.tuple z φ)
  · split at e
    · obtain ⟨z, e⟩ := chk_ok e; cases e; exact .inr ⟨_, _, lstD_ok (by assumption), lstD_ok (by assumption), z, φ⟩
    · cases e)
def negV : W → MS → Option (W × MS)
  | .d (.int i), M => some (.d (.int (-i)), M)
  | _, _ => none
theorem se_neg {f : EF} (ha : SE X a f) : SE X (.UnaryOp .USub a pos) (unE negV f) := fun Γ M =>
  sr_one (fun _ _ _ h => w_e (pe_un un_no pe_w) (h.mono fun _ _ q => False.elim q)) (fun Φ h => ze_neg (h.mono fun x M1 ⟨w, M3, e, φ⟩ => by
    unfold negV at e
    split at e
    · cases e; exact ⟨_, rfl, φ⟩
    · cases e)) (ha Γ M)

/-! ### comparisons -/
def CmpOk (X : Cx) (op : CmpOp) (g : W → W → MS → Option Bool) : Prop :=
  ∀ a b Γ M Φ, ZE X a Γ M (fun x M1 => ZE X b Γ M1 fun y M2 => ∃ r, g x y M2 = some r ∧ Φ (.d (.bool r)) M2) → ZC X op a b Γ M Φ
def liftC (g : W → W → MS → Option Bool) (x y : W) (M : MS) : Option (W × MS) := (g x y M).map fun r => (.d (.bool r), M)
@[simp] theorem liftC_some {g : W → W → MS → Option Bool} {x y : W} {M : MS} {r : Bool} (h : g x y M = some r) : liftC g x y M = some (.d (.bool r), M) := by unfold liftC; rw [h]; rfl
def cmpE (g : W → W → MS → Option Bool) (f1 f2 : EF) : EF := binE (liftC g) f1 f2
def cmpT (g : W → W → MS → Option Bool) (f1 f2 : EF) : TF := fun Γ M => (f1 Γ M).bind fun x M1 => (f2 Γ M1).bind fun y M2 => Res.of ((g x y M2).map fun r => (r, M2))
theorem cmp_exa {op : CmpOp} {σ : St} {H : Hp} {Q : VK} (hm : behindInMarks op b = false) (h : wE X a σ H fun _ _ => False) : wE X (.Compare a [op] [b] pos) σ H Q := w_e (pe_cmpR op_no pe_w pe_w hm) (h.mono fun _ _ q => False.elim q)
theorem cmp_exb {op : CmpOp} {σ : St} {H : Hp} {Q : VK} (hm : behindInMarks op b = false) (h : wE X a σ H fun _ H1 => wE X b σ H1 fun _ _ => False) : wE X (.Compare a [op] [b] pos) σ H Q := w_e (pe_cmpR op_no pe_w pe_w hm) h
theorem cmpT_exa {op : CmpOp} {σ : St} {H : Hp} {Q : Bool → Hp → Prop} (hm : behindInMarks op b = false) (h : wE X a σ H fun _ _ => False) : wT X (.Compare a [op] [b] pos) σ H Q := w_t (pt_cmpR op_no pe_w pe_w hm) (h.mono fun _ _ q => False.elim q)
theorem cmpT_exb {op : CmpOp} {σ : St} {H : Hp} {Q : Bool → Hp → Prop} (hm : behindInMarks op b = false) (h : wE X a σ H fun _ H1 => wE X b σ H1 fun _ _ => False) : wT X (.Compare a [op] [b] pos) σ H Q := w_t (pt_cmpR op_no pe_w pe_w hm) h
theorem se_cmp {op : CmpOp} {g : W → W → MS → Option Bool} {f1 f2 : EF} (ho : CmpOk X op g) (ha : SE X a f1) (hb : SE X b f2) (hm : behindInMarks op b = false := by first | exact nobehind _ (by decide) (by decide) | rfl) : SE X (.Compare a [op] [b] pos) (cmpE g f1 f2) := fun Γ M =>
  sr_two (op := liftC g) (fun _ _ _ h => cmp_exa hm h) (fun _ _ _ h => cmp_exb hm h) (fun Φ h => ze_cmp (ho a b Γ M Φ (h.mono fun x M1 h1 => h1.mono fun y M2 ⟨w, M3, e, φ⟩ => by
    unfold liftC at e
    cases q : g x y M2 with
    | none => rw [q] at e; cases e
    | some r => rw [q] at e; cases e; exact ⟨r, rfl, φ⟩)) hm) (ha Γ M) fun M1 => hb Γ M1
theorem st_cmp {op : CmpOp} {g : W → W → MS → Option Bool} {f1 f2 : EF} (ho : CmpOk X op g) (ha : SE X a f1) (hb : SE X b f2) (hm : behindInMarks op b = false := by first | exact nobehind _ (by decide) (by decide) | rfl) : ST X (.Compare a [op] [b] pos) (cmpT g f1 f2) := fun Γ M => by
  have h1 := ha Γ M
  unfold cmpT
  cases hf : f1 Γ M with
  | bad => exact .bad
  | ex x M' =>
    rw [hf] at h1
    exact fun F ι σ H R S A => cmpT_exa hm (h1 F ι σ H R S A)
  | ok x M1 =>
    rw [hf] at h1
    have h2 := hb Γ M1
    rw [bind_ok]
    cases hg : f2 Γ M1 with
    | bad => exact .bad
    | ex y M' =>
      rw [hg] at h2
      refine fun F ι σ H R S A => cmpT_exb hm ((h1 F ι σ H R S trivial).mono ?_)
      rintro v H1 ⟨F1, ι1, M2, w2, E, R1, r, e1, e2⟩
      subst e2
      exact h2 F1 ι1 σ H1 R1 (E.slots S) (Acc.step (r := (.ex y M' : Res W)) A E)
    | ok y M2 =>
      rw [hg] at h2
      rw [bind_ok]
      cases hr : g x y M2 with
      | none => exact .bad
      | some r => exact .of (zt_cmp (ho a b Γ M _ (h1.ze (h2.ze ⟨r, hr, r, rfl, rfl, rfl⟩))) hm)
def intC (g : Int → Int → Bool) : W → W → MS → Option Bool
  | .d (.int i), .d (.int j), _ => some (g i j)
  | _, _, _ => none
def ltC : W → W → MS → Option Bool := intC fun i j => decide (i < j)
def leC : W → W → MS → Option Bool := intC fun i j => decide (i ≤ j)
def gtC : W → W → MS → Option Bool := intC fun i j => decide (j < i)
def geC : W → W → MS → Option Bool := intC fun i j => decide (j ≤ i)
theorem intC_ok {g : Int → Int → Bool} {x y : W} {M : MS} {r : Bool} (h : intC g x y M = some r) : ∃ i j, x = .d (.int i) ∧ y = .d (.int j) ∧ r = g i j := by
  unfold intC at h
  split at h
  · cases h; exact ⟨_, _, rfl, rfl, rfl⟩
  · cases h
theorem sc_lt : CmpOk X .Lt ltC := fun a b Γ M Φ h => zc_lt (h.mono fun x M1 h1 => h1.mono fun y M2 ⟨r, e, φ⟩ => by
  obtain ⟨i, j, rfl, rfl, rfl⟩ := intC_ok e
  exact ⟨i, j, rfl, rfl, φ⟩)
theorem sc_le : CmpOk X .LtE leC := fun a b Γ M Φ h => zc_le (h.mono fun x M1 h1 => h1.mono fun y M2 ⟨r, e, φ⟩ => by
  obtain ⟨i, j, rfl, rfl, rfl⟩ := intC_ok e
  exact ⟨i, j, rfl, rfl, φ⟩)
theorem sc_gt : CmpOk X .Gt gtC := fun a b Γ M Φ h => zc_gt (h.mono fun x M1 h1 => h1.mono fun y M2 ⟨r, e, φ⟩ => by
  obtain ⟨i, j, rfl, rfl, rfl⟩ := intC_ok e
  exact ⟨i, j, rfl, rfl, φ⟩)
theorem sc_ge : CmpOk X .GtE geC := fun a b Γ M Φ h => zc_ge (h.mono fun x M1 h1 => h1.mono fun y M2 ⟨r, e, φ⟩ => by
  obtain ⟨i, j, rfl, rfl, rfl⟩ := intC_ok e
  exact ⟨i, j, rfl, rfl, φ⟩)
/-- texts compared by themselves (of any length) -/
def eqD : PyData → PyData → Option Bool
  | .str i, .str j => some (decide (i = j))
  | d, e => if SeqAt.shaped d && SeqAt.shaped e then some (PyData.eqv d e) else none
def eqC (x y : W) (M : MS) : Option Bool := match rd M x, rd M y with
  | some d, some e => eqD d e
  | _, _ => none
def neC (x y : W) (M : MS) : Option Bool := (eqC x y M).map (!·)
theorem eqD_ok {d e : PyData} {r : Bool} (h : eqD d e = some r) : (∃ i j, d = .str i ∧ e = .str j ∧ r = decide (i = j)) ∨ (SeqAt.shaped d = true ∧ SeqAt.shaped e = true ∧ r = PyData.eqv d e) := by
  unfold eqD at h
  split at h
  · cases h; exact .inl ⟨_, _, rfl, rfl, rfl⟩
  · split at h
    · rename_i q
      obtain ⟨q1, q2⟩ := Bool.and_eq_true_iff.mp q
      cases h
      exact .inr ⟨q1, q2, rfl⟩
    · cases h
theorem eqC_ok {x y : W} {M : MS} {r : Bool} (h : eqC x y M = some r) : ∃ d e, rd M x = some d ∧ rd M y = some e ∧ eqD d e = some r := by
  unfold eqC at h
  split at h
  · exact ⟨_, _, by assumption, by assumption, h⟩
  · cases h
theorem sc_eq (hr : RoomZ k X.A) : CmpOk X .Eq eqC := fun a b Γ M Φ h =>
  zc (op_eq.or (op_eqZ hr)) h fun F ι H M v u x y Q R rx ry ψ hQ => by
    obtain ⟨r, e, φ⟩ := ψ
    obtain ⟨d1, d2, h1, h2, h3⟩ := eqC_ok e
    have a1 := rd_at R rx h1
    have a2 := rd_at R ry h2
    rcases eqD_ok h3 with ⟨i, j, rfl, rfl, rfl⟩ | ⟨s1, s2, rfl⟩
    · refine .inl ?_
      rw [a1.str_, a2.str_]
      refine ⟨rfl, hQ _ _ (Post.dat R ?_ φ)⟩
      rw [show decide (V.str i = V.str j) = decide (i = j) from by by_cases z : i = j <;> simp [z]]
      exact At.bl _
    · exact .inr ⟨H, d1, d2, Same.refl H, a1, a2, s1, s2, hQ _ _ (Post.dat R (At.bl _) φ)⟩
theorem sc_ne (hr : RoomZ k X.A) : CmpOk X .NotEq neC := fun a b Γ M Φ h =>
  zc (op_ne.or (op_neZ hr)) h fun F ι H M v u x y Q R rx ry ψ hQ => by
    obtain ⟨r, e, φ⟩ := ψ
    unfold neC at e
    cases q : eqC x y M with
    | none => rw [q] at e; cases e
    | some r0 =>
      rw [q] at e
      cases e
      obtain ⟨d1, d2, h1, h2, h3⟩ := eqC_ok q
      have a1 := rd_at R rx h1
      have a2 := rd_at R ry h2
      rcases eqD_ok h3 with ⟨i, j, rfl, rfl, rfl⟩ | ⟨s1, s2, rfl⟩
      · refine .inl ?_
        rw [a1.str_, a2.str_]
        refine ⟨rfl, hQ _ _ (Post.dat R ?_ φ)⟩
        rw [show (!decide (V.str i = V.str j)) = !decide (i = j) from by by_cases z : i = j <;> simp [z]]
        exact At.bl _
      · exact .inr ⟨H, d1, d2, Same.refl H, a1, a2, s1, s2, hQ _ _ (Post.dat R (At.bl _) φ)⟩
end
end Z

/-! S3: in, is None, truths, displays, subscripts, slices. -/
namespace Z
open PySem PySem.Spec PyProof.Rows L2
/-! ### dicts by keys -/
def keyOf : PyData → Option Key
  | .int i => some (.inl i)
  | .str s => some (.inr s)
  | _ => none
theorem keyOf_ok {d : PyData} {k : Key} (h : keyOf d = some k) : d = keyD k := by
  cases d <;> cases h <;> rfl
@[simp] theorem keyOf_keyD (k : Key) : keyOf (keyD k) = some k := by cases k <;> rfl
def unkey : List (PyData × PyData) → Option (List (Key × PyData))
  | [] => some []
  | q :: r => match keyOf q.1, unkey r with
    | some k, some r' => some ((k, q.2) :: r')
    | _, _ => none
theorem unkey_ok : ∀ {l : List (PyData × PyData)} {r : List (Key × PyData)}, unkey l = some r → l = r.map fun q => (keyD q.1, q.2)
  | [], _, h => by cases h; rfl
  | q :: l, r, h => by
    rw [unkey] at h
    cases e1 : keyOf q.1 with
    | none => rw [e1] at h; cases h
    | some k =>
      cases e2 : unkey l with
      | none => rw [e1, e2] at h; cases h
      | some r' =>
        rw [e1, e2] at h
        cases h
        rw [unkey_ok e2, List.map_cons, ← keyOf_ok e1]
@[simp] theorem unkey_map : ∀ r : List (Key × PyData), unkey (r.map fun q => (keyD q.1, q.2)) = some r
  | [] => rfl
  | q :: r => by rw [List.map_cons, unkey, unkey_map r, keyOf_keyD]
/-- the entries of a dict, data or cell -/
def dicW (M : MS) : W → Option (List (Key × W))
  | .d (.dict l) => (unkey l).map fun r => r.map fun q => (q.1, .d q.2)
  | .m k => match M[k]? with
    | some (.dic ks) => some ks
    | some (.dil ks) => some ks
    | _ => none
  | _ => none
@[simp] theorem dicW_dictK (M : MS) (r : List (Key × PyData)) : dicW M (.d (dictK r)) = some (r.map fun q => (q.1, .d q.2)) := by
  show (unkey _).map _ = _
  rw [unkey_map]; rfl
theorem look_map (r : List (Key × PyData)) (k : Key) : lookK (r.map fun q => (q.1, W.d q.2)) k = (lookK r k).map .d := by
  unfold lookK
  rw [List.find?_map]
  cases e : List.find? ((fun kv : Key × W => decide (kv.1 = k)) ∘ fun q : Key × PyData => (q.1, W.d q.2)) r with
  | none =>
    have e' : List.find? (fun kv : Key × PyData => decide (kv.1 = k)) r = none := e
    rw [e']; rfl
  | some q =>
    have e' : List.find? (fun kv : Key × PyData => decide (kv.1 = k)) r = some q := e
    rw [e']; rfl
theorem dicW_ok {M : MS} {x : W} {ks : List (Key × W)} (h : dicW M x = some ks) (k : Key) : GetW x k M (lookK ks k) := by
  cases x with
  | d y =>
    cases y with
    | dict l =>
      change (unkey l).map _ = _ at h
      cases e : unkey l with
      | none => rw [e] at h; cases h
      | some r =>
        rw [e] at h
        cases h
        refine .inl ⟨r, ?_, look_map r k⟩
        rw [unkey_ok e]; rfl
    | _ => cases h
  | m j =>
    unfold dicW at h
    dsimp only at h
    split at h
    · cases h; exact .inr ⟨j, _, rfl, .inl (by assumption), rfl⟩
    · cases h; exact .inr ⟨j, _, rfl, .inr (by assumption), rfl⟩
    · cases h
/-- the items of a list or tuple, data or cell -/
def seqW (M : MS) : W → Option (List W)
  | .d (.list ds) => some (ds.map .d)
  | .d (.tuple ds) => some (ds.map .d)
  | .m k => match M[k]? with
    | some (.lst ws) => some ws
    | _ => none
  | _ => none
@[simp] theorem seqW_l (M : MS) (ds : List PyData) : seqW M (.d (.list ds)) = some (ds.map .d) := rfl
@[simp] theorem seqW_t (M : MS) (ds : List PyData) : seqW M (.d (.tuple ds)) = some (ds.map .d) := rfl
theorem seqW_ok {M : MS} {x : W} {ws : List W} (h : seqW M x = some ws) : (∃ ds, (x = .d (.list ds) ∨ x = .d (.tuple ds)) ∧ ws = ds.map .d) ∨ ∃ j, x = .m j ∧ M[j]? = some (.lst ws) := by
  cases x with
  | d y =>
    cases y with
    | list ds => cases h; exact .inl ⟨ds, .inl rfl, rfl⟩
    | tuple ds => cases h; exact .inl ⟨ds, .inr rfl, rfl⟩
    | _ => cases h
  | m j =>
    unfold seqW at h
    dsimp only at h
    split at h
    · cases h; exact .inr ⟨j, rfl, by assumption⟩
    · cases h
theorem atI_map {α β : Type} (f : α → β) (xs : List α) (i : Int) : atI (xs.map f) i = (atI xs i).map f := by
  unfold atI
  rw [List.length_map]
  cases ixN xs.length i with
  | none => rfl
  | some j => simp
def ixV (x y : W) (M : MS) : Option (W × MS) := match y with
  | .d k => match seqW M x, k with
    | some ws, .int i => (atI ws i).map fun w => (w, M)
    | _, _ => match dicW M x, keyOf k with
      | some ks, some k => (lookK ks k).map fun w => (w, M)
      | _, _ => none
  | _ => none
theorem ixV_ok {x y w : W} {M M' : MS} {Φ : W → MS → Prop} (h : ixV x y M = some (w, M')) (φ : Φ w M') : IxW x y M Φ := by
  unfold ixV at h
  split at h
  · rename_i k
    split at h
    · rename_i ws i hs
      cases e : atI ws i with
      | none => rw [e] at h; cases h
      | some z =>
        rw [e] at h
        cases h
        rcases seqW_ok hs with ⟨ds, hx, rfl⟩ | ⟨j, rfl, hm⟩
        · rw [atI_map] at e
          cases e2 : atI ds i with
          | none => rw [e2] at e; cases e
          | some d => rw [e2] at e; cases e; exact .inl ⟨ds, i, d, hx, rfl, e2, φ⟩
        · exact .inr (.inl ⟨j, ws, i, w, rfl, hm, rfl, e, φ⟩)
    · split at h
      · rename_i ks q hk hq
        cases e : lookK ks q with
        | none => rw [e] at h; cases h
        | some z =>
          rw [e] at h
          cases h
          rw [keyOf_ok hq]
          have g := dicW_ok hk q
          rw [e] at g
          exact .inr (.inr ⟨q, w, rfl, g, φ⟩)
      · cases h
  · cases h
section
variable {X : Cx} {a b c e : Expr} {es rest : List Expr} {pos p : Pos} {Γ : GS} {M : MS} {k : Nat}
def ixE (f g : EF) : EF := binE ixV f g
theorem ix_no : IxR X fun _ _ _ _ => False := fun _ _ _ _ _ _ _ _ _ _ _ _ _ _ h => False.elim h
theorem se_ix (hr : RoomZ k X.A) {f g : EF} (ha : SE X a f) (hb : SE X b g) (hs : PlainIx b := by exact fun _ _ => rfl) : SE X (.Subscript a b pos) (ixE f g) := fun Γ M =>
  sr_two (fun _ _ _ h => w_e (pe_ix ix_no pe_w pe_w hs) (h.mono fun _ _ q => False.elim q)) (fun _ _ _ h => w_e (pe_ix ix_no pe_w pe_w hs) h)
    (fun Φ h => ze_ix hr (h.mono fun x M1 h1 => h1.mono fun y M2 ⟨w, M3, e, φ⟩ => ixV_ok e φ) hs) (ha Γ M) fun M1 => hb Γ M1

/-! ### in -/
def inC (x y : W) (M : MS) : Option Bool := match rd M x with
  | some d => match allD M y with
    | some es => if SeqAt.shaped d && PyData.canLayAll0 es then some (es.any fun z => PyData.eqv z d) else none
    | none => match dicW M y, keyOf d with
      | some ks, some k => some (lookK ks k).isSome
      | _, _ => none
  | none => none
def notInC (x y : W) (M : MS) : Option Bool := (inC x y M).map (!·)
theorem inC_ok {x y : W} {M : MS} {r : Bool} (h : inC x y M = some r) : (∃ d es, rd M x = some d ∧ allD M y = some es ∧ SeqAt.shaped d = true ∧ PyData.canLayAll0 es = true ∧ r = es.any fun z => PyData.eqv z d) ∨
    ∃ k o, rd M x = some (keyD k) ∧ GetW y k M o ∧ r = o.isSome := by
  unfold inC at h
  split at h
  · rename_i d hd
    split at h
    · split at h
      · rename_i q
        obtain ⟨q1, q2⟩ := Bool.and_eq_true_iff.mp q
        cases h
        exact .inl ⟨d, _, hd, by assumption, q1, q2, rfl⟩
      · cases h
    · split at h
      · rename_i ks q hk hq
        cases h
        exact .inr ⟨q, _, by rw [hd, keyOf_ok hq], dicW_ok hk q, rfl⟩
      · cases h
  · cases h
theorem sc_in (hr : RoomZ k X.A) : CmpOk X .In inC := fun a b Γ M Φ h =>
  zc ((op_inZ hr).or (op_inDk hr)) h fun F ι H M v u x y Q R rx ry ψ hQ => by
    obtain ⟨r, e, φ⟩ := ψ
    rcases inC_ok e with ⟨d, es, h1, h2, s1, s2, rfl⟩ | ⟨q, o, h1, g, rfl⟩
    · refine .inl ⟨H, d, es, Same.refl H, rd_at R rx h1, ?_, s1, s2, hQ _ _ (Post.dat R (.bl _) φ)⟩
      unfold allD at h2
      cases e2 : rd M y with
      | none => rw [e2] at h2; cases h2
      | some z =>
        have az := rd_at R ry e2
        rw [e2] at h2
        cases z with
        | list l => cases h2; exact .inl az
        | tuple l => cases h2; exact .inr az
        | _ => cases h2
    · have ax := rd_at R rx h1
      have ax' : At F v (keyD q) := by
        rw [kV_at ax]
        cases q with
        | inl i => exact At.int i
        | inr s => exact At.str s
      obtain ⟨c, ov, rfl, dg, i1, i2⟩ := get_ok R ry ax' g
      exact .inr ⟨c, ov, rfl, dg, hQ _ _ (Post.dat R (by rw [some_iff i1 i2]; exact .bl _) φ)⟩
theorem sc_notIn (hr : RoomZ k X.A) : CmpOk X .NotIn notInC := fun a b Γ M Φ h =>
  zc ((op_notInZ hr).or (op_notInDk hr)) h fun F ι H M v u x y Q R rx ry ψ hQ => by
    obtain ⟨r, e, φ⟩ := ψ
    unfold notInC at e
    cases e0 : inC x y M with
    | none => rw [e0] at e; cases e
    | some r0 =>
      rw [e0] at e
      cases e
      rcases inC_ok e0 with ⟨d, es, h1, h2, s1, s2, rfl⟩ | ⟨q, o, h1, g, rfl⟩
      · refine .inl ⟨H, d, es, Same.refl H, rd_at R rx h1, ?_, s1, s2, hQ _ _ (Post.dat R (.bl _) φ)⟩
        unfold allD at h2
        cases e2 : rd M y with
        | none => rw [e2] at h2; cases h2
        | some z =>
          have az := rd_at R ry e2
          rw [e2] at h2
          cases z with
          | list l => cases h2; exact .inl az
          | tuple l => cases h2; exact .inr az
          | _ => cases h2
      · have ax := rd_at R rx h1
        have ax' : At F v (keyD q) := by
          rw [kV_at ax]
          cases q with
          | inl i => exact At.int i
          | inr s => exact At.str s
        obtain ⟨c, ov, rfl, dg, i1, i2⟩ := get_ok R ry ax' g
        exact .inr ⟨c, ov, rfl, dg, hQ _ _ (Post.dat R (by rw [some_iff i1 i2]; exact .bl _) φ)⟩

/-! ### is None -/
def isNV (x : W) (M : MS) : Option (W × MS) := some (.d (.bool (isN x)), M)
def notNV (x : W) (M : MS) : Option (W × MS) := some (.d (.bool (!isN x)), M)

theorem se_isN {f : EF} (ha : SE X a f) {j q} (hm : behindInMarks .Is (.Constant .none j q) = false := by rfl) : SE X (.Compare a [.Is] [.Constant .none j q] pos) (unE isNV f) := fun Γ M =>
  sr_one (op := isNV) (fun _ _ _ h => cmp_exa hm h) (fun Φ h => ze_cmp (zc_isN (h.mono fun x M1 ⟨w, M3, e, φ⟩ => by cases e; exact φ)) hm) (ha Γ M)
theorem se_notN {f : EF} (ha : SE X a f) {j q} (hm : behindInMarks .IsNot (.Constant .none j q) = false := by rfl) : SE X (.Compare a [.IsNot] [.Constant .none j q] pos) (unE notNV f) := fun Γ M =>
  sr_one (op := notNV) (fun _ _ _ h => cmp_exa hm h) (fun Φ h => ze_cmp (zc_notN (h.mono fun x M1 ⟨w, M3, e, φ⟩ => by cases e; exact φ)) hm) (ha Γ M)
def unT (g : W → Bool) (f : EF) : TF := fun Γ M => (f Γ M).bind fun x M1 => .ok (g x) M1
theorem st_isN {f : EF} (ha : SE X a f) {j q} (hm : behindInMarks .Is (.Constant .none j q) = false := by rfl) : ST X (.Compare a [.Is] [.Constant .none j q] pos) (unT isN f) := fun Γ M => by
  have h1 := ha Γ M
  unfold unT
  cases hf : f Γ M with
  | bad => exact .bad
  | ex x M' => rw [hf] at h1; exact fun F ι σ H R S A => cmpT_exa hm (h1 F ι σ H R S A)
  | ok x M1 => rw [hf] at h1; exact .of (zt_cmp (zc_isN (h1.ze ⟨_, rfl, rfl, rfl⟩)) hm)
theorem st_notN {f : EF} (ha : SE X a f) {j q} (hm : behindInMarks .IsNot (.Constant .none j q) = false := by rfl) : ST X (.Compare a [.IsNot] [.Constant .none j q] pos) (unT (fun x => !isN x) f) := fun Γ M => by
  have h1 := ha Γ M
  unfold unT
  cases hf : f Γ M with
  | bad => exact .bad
  | ex x M' => rw [hf] at h1; exact fun F ι σ H R S A => cmpT_exa hm (h1 F ι σ H R S A)
  | ok x M1 => rw [hf] at h1; exact .of (zt_cmp (zc_notN (h1.ze ⟨_, rfl, rfl, rfl⟩)) hm)

/-! ### truths -/
def valT (f : EF) : TF := fun Γ M => (f Γ M).bind fun x M1 => match x with
  | .d (.bool c) => .ok c M1
  | _ => .bad
theorem st_val {f : EF} (h : SE X e f) (he : ∀ whole, isTrue e X.env whole = (do let v ← whole; standAt e.pos; holding [v] (truthy v)) := by intro _; rfl) : ST X e (valT f) := fun Γ M => by
  have h1 := h Γ M
  unfold valT
  cases hf : f Γ M with
  | bad => exact .bad
  | ex x M' => rw [hf] at h1; exact fun F ι σ H R S A => w_t (pt_val pe_w he) ((h1 F ι σ H R S A).mono fun _ _ q => False.elim q)
  | ok x M1 =>
    rw [hf] at h1
    rw [bind_ok]
    split
    · exact .of (zt_val (h1.ze ⟨_, rfl, rfl, rfl⟩) he)
    · exact .bad
def notT (f : TF) : TF := fun Γ M => (f Γ M).bind fun c M1 => .ok (!c) M1
theorem st_not {f : TF} (h : ST X a f) : ST X (.UnaryOp .Not a pos) (notT f) := fun Γ M => by
  have h1 := h Γ M
  unfold notT
  cases hf : f Γ M with
  | bad => exact .bad
  | ex x M' => rw [hf] at h1; exact fun F ι σ H R S A => w_t (pt_not pt_w) ((h1 F ι σ H R S A).mono fun _ _ q => False.elim q)
  | ok x M1 => rw [hf] at h1; exact .of (zt_not (h1.ze ⟨rfl, rfl⟩))
def boolW : W → Option Bool
  | .d (.bool c) => some c
  | _ => none
theorem boolW_ok {w : W} {c : Bool} (h : boolW w = some c) : w = .d (.bool c) := by
  unfold boolW at h
  split at h
  · cases h; rfl
  · cases h
@[simp] theorem boolW_b (c : Bool) : boolW (.d (.bool c)) = some c := rfl
def notV (x : W) (M : MS) : Option (W × MS) := (boolW x).map fun c => (.d (.bool (!c)), M)
theorem se_not {f : EF} (ha : SE X a f) : SE X (.UnaryOp .Not a pos) (unE notV f) := fun Γ M =>
  sr_one (op := notV) (fun _ _ _ h => w_e (pe_not pe_w) (h.mono fun _ _ q => False.elim q)) (fun Φ h => ze_not (h.mono fun x M1 ⟨w, M3, e, φ⟩ => by
    unfold notV at e
    cases q : boolW x with
    | none => rw [q] at e; cases e
    | some c => rw [q] at e; cases e; exact ⟨c, boolW_ok q, φ⟩)) (ha Γ M)
def andT (f g : TF) : TF := fun Γ M => (f Γ M).bind fun c M1 => if c then g Γ M1 else .ok false M1
def orT (f g : TF) : TF := fun Γ M => (f Γ M).bind fun c M1 => if c then .ok true M1 else g Γ M1
theorem st_w {f : TF} (h : SW X e f) : ST X e f := fun Γ M => fun F ι σ H R S A => w_t (PW.pt pw_w) (h Γ M F ι σ H R S A)
theorem sw_and1 {f : TF} (h : ST X a f) : SW X (.BoolOp .And [a] pos) f := fun Γ M => fun F ι σ H R S A => w_w (pw_and1 pt_w) (h Γ M F ι σ H R S A)
theorem sw_or1 {f : TF} (h : ST X a f) : SW X (.BoolOp .Or [a] pos) f := fun Γ M => fun F ι σ H R S A => w_w (pw_or1 pt_w) (h Γ M F ι σ H R S A)
theorem sw_and {f g : TF} (h : ST X a f) (h2 : SW X (.BoolOp .And (b :: rest) pos) g) : SW X (.BoolOp .And (a :: b :: rest) pos) (andT f g) := fun Γ M F ι σ H R S A => by
  have h1 := h Γ M
  unfold andT at A ⊢
  cases hf : f Γ M with
  | bad => rw [hf] at A; exact False.elim A
  | ex x M' => rw [hf] at A h1; exact w_w (pw_and pt_w pw_w) ((h1 F ι σ H R S A).mono fun _ _ q => False.elim q)
  | ok c M1 =>
    rw [hf] at A h1
    rw [bind_ok] at A ⊢
    refine w_w (pw_and pt_w pw_w) ((h1 F ι σ H R S trivial).mono ?_)
    rintro c' H1 ⟨F1, ι1, M2, E1, R1, e1, e2⟩
    subst e1 e2
    cases c' with
    | true => exact (h2 Γ M2 F1 ι1 σ H1 R1 (E1.slots S) (A.step E1)).mono fun _ _ p => PRT.ext E1 p
    | false => exact ⟨F1, ι1, M2, E1, R1, rfl, rfl⟩
theorem sw_or {f g : TF} (h : ST X a f) (h2 : SW X (.BoolOp .Or (b :: rest) pos) g) : SW X (.BoolOp .Or (a :: b :: rest) pos) (orT f g) := fun Γ M F ι σ H R S A => by
  have h1 := h Γ M
  unfold orT at A ⊢
  cases hf : f Γ M with
  | bad => rw [hf] at A; exact False.elim A
  | ex x M' => rw [hf] at A h1; exact w_w (pw_or pt_w pw_w) ((h1 F ι σ H R S A).mono fun _ _ q => False.elim q)
  | ok c M1 =>
    rw [hf] at A h1
    rw [bind_ok] at A ⊢
    refine w_w (pw_or pt_w pw_w) ((h1 F ι σ H R S trivial).mono ?_)
    rintro c' H1 ⟨F1, ι1, M2, E1, R1, e1, e2⟩
    subst e1 e2
    cases c' with
    | false => exact (h2 Γ M2 F1 ι1 σ H1 R1 (E1.slots S) (A.step E1)).mono fun _ _ p => PRT.ext E1 p
    | true => exact ⟨F1, ι1, M2, E1, R1, rfl, rfl⟩
def andE (f g : EF) : EF := fun Γ M => (f Γ M).bind fun x M1 => match boolW x with
  | some true => g Γ M1
  | some false => .ok (.d (.bool false)) M1
  | none => .bad
def orE (f g : EF) : EF := fun Γ M => (f Γ M).bind fun x M1 => match boolW x with
  | some true => .ok (.d (.bool true)) M1
  | some false => g Γ M1
  | none => .bad
theorem se_one {op} {f : EF} (h : SE X a f) : SE X (.BoolOp op [a] pos) f := fun Γ M F ι σ H R S A => w_e (pe_one pe_w) (h Γ M F ι σ H R S A)
theorem se_and {f g : EF} (h : SE X a f) (h2 : SE X (.BoolOp .And (b :: rest) pos) g) : SE X (.BoolOp .And (a :: b :: rest) pos) (andE f g) := fun Γ M F ι σ H R S A => by
  have h1 := h Γ M
  unfold andE at A ⊢
  cases hf : f Γ M with
  | bad => rw [hf] at A; exact False.elim A
  | ex x M' => rw [hf] at A h1; exact w_e (pe_and pe_w pe_w) ((h1 F ι σ H R S A).mono fun _ _ q => False.elim q)
  | ok x M1 =>
    rw [hf] at A h1
    rw [bind_ok] at A ⊢
    cases hb : boolW x with
    | none => rw [hb] at A; exact False.elim A
    | some c =>
      rw [hb] at A
      have ex := boolW_ok hb
      refine w_e (pe_and pe_w pe_w) ((h1 F ι σ H R S trivial).mono ?_)
      rintro v H1 ⟨F1, ι1, M2, w2, E1, R1, r, e1, e2⟩
      subst e1 e2
      subst ex
      refine ⟨c, At.bl_ r, ?_⟩
      cases c with
      | true => exact (h2 Γ M2 F1 ι1 σ H1 R1 (E1.slots S) (A.step E1)).mono fun _ _ p => PR.ext E1 p
      | false => exact ⟨F1, ι1, M2, _, E1, R1, (show RW _ _ _ (.d (.bool false)) from At.bl false), rfl, rfl⟩
theorem se_or {f g : EF} (h : SE X a f) (h2 : SE X (.BoolOp .Or (b :: rest) pos) g) : SE X (.BoolOp .Or (a :: b :: rest) pos) (orE f g) := fun Γ M F ι σ H R S A => by
  have h1 := h Γ M
  unfold orE at A ⊢
  cases hf : f Γ M with
  | bad => rw [hf] at A; exact False.elim A
  | ex x M' => rw [hf] at A h1; exact w_e (pe_or pe_w pe_w) ((h1 F ι σ H R S A).mono fun _ _ q => False.elim q)
  | ok x M1 =>
    rw [hf] at A h1
    rw [bind_ok] at A ⊢
    cases hb : boolW x with
    | none => rw [hb] at A; exact False.elim A
    | some c =>
      rw [hb] at A
      have ex := boolW_ok hb
      refine w_e (pe_or pe_w pe_w) ((h1 F ι σ H R S trivial).mono ?_)
      rintro v H1 ⟨F1, ι1, M2, w2, E1, R1, r, e1, e2⟩
      subst e1 e2
      subst ex
      refine ⟨c, At.bl_ r, ?_⟩
      cases c with
      | false => exact (h2 Γ M2 F1 ι1 σ H1 R1 (E1.slots S) (A.step E1)).mono fun _ _ p => PR.ext E1 p
      | true => exact ⟨F1, ι1, M2, _, E1, R1, (show RW _ _ _ (.d (.bool true)) from At.bl true), rfl, rfl⟩
def ifE (t : TF) (f g : EF) : EF := fun Γ M => (t Γ M).bind fun c M1 => if c then f Γ M1 else g Γ M1
theorem se_if {t : TF} {f g : EF} (hc : ST X c t) (ha : SE X a f) (hb : SE X b g) : SE X (.IfExp c a b pos) (ifE t f g) := fun Γ M F ι σ H R S A => by
  have h1 := hc Γ M
  unfold ifE at A ⊢
  cases hf : t Γ M with
  | bad => rw [hf] at A; exact False.elim A
  | ex x M' => rw [hf] at A h1; exact w_e (pe_ifExp pt_w pe_w pe_w) ((h1 F ι σ H R S A).mono fun _ _ q => False.elim q)
  | ok x M1 =>
    rw [hf] at A h1
    rw [bind_ok] at A ⊢
    refine w_e (pe_ifExp pt_w pe_w pe_w) ((h1 F ι σ H R S trivial).mono ?_)
    rintro c' H1 ⟨F1, ι1, M2, E1, R1, e1, e2⟩
    subst e1 e2
    cases c' with
    | true => exact (ha Γ M2 F1 ι1 σ H1 R1 (E1.slots S) (A.step E1)).mono fun _ _ p => PR.ext E1 p
    | false => exact (hb Γ M2 F1 ι1 σ H1 R1 (E1.slots S) (A.step E1)).mono fun _ _ p => PR.ext E1 p

/-! ### displays -/
def tupV (ws : List W) (M : MS) : Option (W × MS) := (datsW ws).bind fun ds => chk ds.length (some (.d (.tuple ds), M))
def lstV (ws : List W) (M : MS) : Option (W × MS) := match datsW ws with
  | some ds => chk ds.length (some (.d (.list ds), M))
  | none => chk ws.length (some (.m M.length, M ++ [.lst ws]))
def lstMV (ws : List W) (M : MS) : Option (W × MS) := chk ws.length (some (.m M.length, M ++ [.lst ws]))
def argE (op : List W → MS → Option (W × MS)) (f : AF) : EF := fun Γ M => (f Γ M).bind fun x M1 => Res.of (op x M1)
theorem se_tup {f : AF} (h : SA X es f) {q} : SE X (.Tuple es q pos) (argE tupV f) := fun Γ M =>
  sr_args (op := tupV) (fun _ _ _ h => w_e (pe_tup pa_w) (h.mono fun _ _ q => False.elim q)) (fun Φ h => ze_tup (h.mono' fun ws M1 ⟨w, M3, e, φ⟩ => by
    unfold tupV at e
    cases q : datsW ws with
    | none => rw [q] at e; cases e
    | some ds =>
      rw [q] at e
      obtain ⟨z, e⟩ := chk_ok e
      cases e
      exact ⟨ds, datsW_ok q, z, φ⟩)) (h Γ M)
end
end Z

/-! S4: list displays, stars, slices, calls of built-ins. -/
namespace Z
open PySem PySem.Spec PyProof.Rows L2
section
variable {X : Cx} {a b c e f o : Expr} {es rest : List Expr} {pos p pos2 p2 apos cpos : Pos} {Γ : GS} {M : MS} {k : Nat}
theorem lst_ex {Q : VK} {σ : St} {H : Hp} (h : wA X es σ H fun _ _ => False) : wE X (.List es pos) σ H Q := w_e (pe_lst pa_w) (h.mono fun _ _ q => False.elim q)
theorem se_lst {g : AF} (h : SA X es g) : SE X (.List es pos) (argE lstV g) := fun Γ M => by
  have h1 := h Γ M
  unfold argE
  cases hf : g Γ M with
  | bad => exact .bad
  | ex x M' => rw [hf] at h1; exact fun F ι σ H R S A => lst_ex (h1 F ι σ H R S A)
  | ok ws M1 =>
    rw [hf] at h1
    rw [bind_ok]
    unfold lstV
    cases q : datsW ws with
    | some ds =>
      dsimp only
      unfold chk
      split
      · exact .of (ze_lst (h1.ze ⟨ds, datsW_ok q, by assumption, rfl, rfl⟩))
      · exact .bad
    | none =>
      dsimp only
      unfold chk
      split
      · exact .of (ze_lstM (h1.ze ⟨by assumption, rfl, rfl⟩))
      · exact .bad
theorem se_lstM {g : AF} (h : SA X es g) : SE X (.List es pos) (argE lstMV g) := fun Γ M =>
  sr_args (op := lstMV) (fun _ _ _ h => lst_ex h) (fun Φ h => ze_lstM (h.mono' fun ws M1 ⟨w, M3, e, φ⟩ => by
    unfold lstMV at e
    obtain ⟨z, e⟩ := chk_ok e
    cases e
    exact ⟨z, φ⟩)) (h Γ M)
def starA (f : EF) (g : AF) : AF := fun Γ M => (f Γ M).bind fun x M1 => match allD M1 x with
  | some ds => (g Γ M1).bind fun xs M2 => .ok (ds.map .d ++ xs) M2
  | none => .bad
theorem sa_star {g : EF} {h : AF} (ha : SE X e g) (hb : SA X es h) (hs : starEach (.Starred e p :: es) X.env = (true, eval e X.env) :: starEach es X.env := by rfl) : SA X (.Starred e p :: es) (starA g h) := fun Γ M => by
  have h1 := ha Γ M
  unfold starA
  cases hf : g Γ M with
  | bad => exact .bad
  | ex x M' =>
    rw [hf] at h1
    exact fun F ι σ H R S A => w_a (StX.pa_star pe_w pa_w hs) ((h1 F ι σ H R S A).mono fun _ _ q => False.elim q)
  | ok x M1 =>
    rw [hf] at h1
    rw [bind_ok]
    cases q : allD M1 x with
    | none => exact .bad
    | some ds =>
      dsimp only
      have h2 := hb Γ M1
      cases hg : h Γ M1 with
      | bad => exact .bad
      | ok ys M2 =>
        rw [hg] at h2
        exact .of (za_star (h1.ze ⟨ds, allD_ok q, h2.ze ⟨rfl, rfl⟩⟩) hs)
      | ex y M' =>
        rw [hg] at h2
        intro F ι σ H R S A
        refine w_a (StX.pa_star pe_w pa_w hs) ((h1 F ι σ H R S trivial).mono ?_)
        rintro v H1 ⟨F1, ι1, M2, w2, E, R1, r, e1, e2⟩
        subst e1 e2
        obtain ⟨c, vs, rfl, hc, r2⟩ := (allD_ok q).at R1 r
        refine ⟨c, vs, rfl, ?_, (h2 F1 ι1 σ H1 R1 (E.slots S) (Acc.step (r := (.ex y M' : Res (List W))) A E)).mono fun _ _ q => False.elim q⟩
        rcases hc with h1 | ⟨f, _⟩
        · exact .inr (.of h1)
        · exact .inl (.of (R1.sub _ _ f))

/-! ### slices -/
/-- a part of a slice -/
def SP' (X : Cx) (e : Option Expr) (f : GS → MS → Res (Option Int)) : Prop := ∀ Γ M o M1, f Γ M = .ok o M1 → ∀ Ψ : Option Int → MS → Prop, Ψ o M1 → ZP X e Γ M Ψ
def noneP : GS → MS → Res (Option Int) := fun _ M => .ok none M
def someP (f : EF) : GS → MS → Res (Option Int) := fun Γ M => match f Γ M with
  | .ok (.d (.int i)) M1 => .ok (some i) M1
  | _ => .bad
theorem sp_none : SP' X none noneP := fun Γ M o M1 h Ψ k => by cases h; exact zp_none k
theorem sp_some {g : EF} (h : SE X e g) : SP' X (some e) (someP g) := fun Γ M o M1 h2 Ψ k => by
  have h1 := h Γ M
  unfold someP at h2
  split at h2
  · rename_i i M2 hf
    cases h2
    rw [hf] at h1
    exact zp_some (h1.ze ⟨i, rfl, k⟩)
  · cases h2
def slV (x : W) (lo hi : Option Int) (M : MS) : Option (W × MS) := match rd M x with
  | some (.list ds) => some (.d (.list (cutD ds lo hi)), M)
  | some (.tuple ds) => some (.d (.tuple (cutD ds lo hi)), M)
  | _ => none
def slMV (x : W) (lo hi : Option Int) (M : MS) : Option (W × MS) := (lstD M x).map fun ds => (.m M.length, M ++ [.lst ((cutD ds lo hi).map .d)])
def slE (op : W → Option Int → Option Int → MS → Option (W × MS)) (f : EF) (lo hi : GS → MS → Res (Option Int)) : EF := fun Γ M => (f Γ M).bind fun x M1 => match lo Γ M1 with
  | .ok l M2 => (match hi Γ M2 with
    | .ok u M3 => Res.of (op x l u M3)
    | _ => .bad)
  | _ => .bad
/-- slices of cells too -/
theorem ze_slR {lo hi : Option Expr} {p2 : Pos} {Φ : W → MS → Prop} (h : ZE X a Γ M fun x M1 => ZP X lo Γ M1 fun l M2 => ZP X hi Γ M2 fun u M3 => SlW x l u M3 Φ ∨ ∃ ds, LstW x M3 ds ∧ Φ (.d (.list (cutD ds l u))) M3) : ZE X (.Subscript a (.Slice lo hi none p2) pos) Γ M Φ := fun F ι σ H R S => by
  refine w_e (pe_slice (sl_list.or sl_tupA) pe_w po_w po_w) ((h F ι σ H R S).mono ?_)
  rintro v H1 ⟨F1, ι1, M1, x, E1, R1, rx, hl⟩
  intro pins s I
  obtain ⟨t1, p1, q1⟩ := hl F1 ι1 σ H1 R1 (E1.slots S)
  refine thn (p1.run pins s σ H1 _ I q1) ?_
  rintro u1 s1 ⟨o1, H2, I2, ip1, F2, ι2, M2, E2, R2, hu⟩
  refine ⟨o1, H2, I2, ip1, fun pins s I => ?_⟩
  obtain ⟨t2, p2, q2⟩ := hu F2 ι2 σ H2 R2 ((E1.trans E2).slots S)
  refine thn (p2.run pins s σ H2 _ I q2) ?_
  rintro u2 s2 ⟨o2, H3, I3, ip2, F3, ι3, M3, E3, R3, hS⟩
  refine ⟨o2, H3, I3, ip2, ?_⟩
  have E13 := (E1.trans E2).trans E3
  have rx3 := (E2.trans E3).rw rx
  have up : ∀ z H', Post F3 ι3 H3 Φ z H' → Post F ι H Φ z H' := fun z H' q => Post.ext E13 q
  rcases hS with (⟨ds, rfl, φ⟩ | ⟨ds, rfl, φ⟩) | ⟨ds, hx, φ⟩
  · obtain ⟨c, vs, rfl, f, r⟩ := At.lst_ rx3
    exact .inl ⟨c, vs, rfl, .of (R3.sub _ _ f), lay_lst R3 (cut_rel r o1 o2) φ up⟩
  · obtain ⟨c, vs, rfl, f, r⟩ := At.tup_ rx3
    refine .inr ⟨c, vs, rfl, .of (R3.sub _ _ f), fun hw => up _ _ (Post.dat R3 (.tup f ?_) φ), fun _ => lay_tup R3 (cut_rel r o1 o2) φ up⟩
    have : cutD ds o1 o2 = ds := by
      unfold cutD
      rw [← r.len, hw.1, hw.2, List.drop_zero, Nat.sub_zero, r.len, List.take_length]
    rw [this]; exact r
  · obtain ⟨c, vs, rfl, h1, r⟩ := hx.at R3 rx3
    exact .inl ⟨c, vs, rfl, .of h1, lay_lst R3 (cut_rel r o1 o2) φ up⟩
theorem sl_ex {lo hi : Option Expr} {Q : VK} {σ : St} {H : Hp} (h : wE X a σ H fun _ _ => False) : wE X (.Subscript a (.Slice lo hi none p2) pos) σ H Q := w_e (pe_slice sl_list pe_w po_w po_w) (h.mono fun _ _ q => False.elim q)
theorem se_sl {lo hi : Option Expr} {g : EF} {l u : GS → MS → Res (Option Int)} (ha : SE X a g) (hl : SP' X lo l) (hu : SP' X hi u) : SE X (.Subscript a (.Slice lo hi none p2) pos) (slE slV g l u) := fun Γ M => by
  have h1 := ha Γ M
  unfold slE
  cases hf : g Γ M with
  | bad => exact .bad
  | ex x M' => rw [hf] at h1; exact fun F ι σ H R S A => sl_ex (h1 F ι σ H R S A)
  | ok x M1 =>
    rw [hf] at h1
    rw [bind_ok]
    cases e1 : l Γ M1 with
    | bad => exact .bad
    | ex _ _ => exact .bad
    | ok i M2 =>
      dsimp only
      cases e2 : u Γ M2 with
      | bad => exact .bad
      | ex _ _ => exact .bad
      | ok j M3 =>
        dsimp only
        cases e3 : slV x i j M3 with
        | none => exact .bad
        | some q =>
          refine .of (ze_slR (h1.ze (hl Γ M1 i M2 e1 _ (hu Γ M2 j M3 e2 _ ?_))))
          unfold slV at e3
          split at e3
          · rename_i ds hd
            cases e3
            rcases rd_m hd with rfl | ⟨k, ds', rfl, hm, q⟩ | ⟨k, ks, rfl, hm, q⟩
            · exact .inl (.inl ⟨ds, rfl, rfl, rfl⟩)
            · cases q; exact .inr ⟨ds, .inr ⟨k, rfl, hm⟩, rfl, rfl⟩
            · cases q
          · rename_i ds hd
            cases e3
            rcases rd_m hd with rfl | ⟨k, ds', rfl, hm, q⟩ | ⟨k, ks, rfl, hm, q⟩
            · exact .inl (.inr ⟨ds, rfl, rfl, rfl⟩)
            · cases q
            · cases q
          · cases e3
theorem se_slM {lo hi : Option Expr} {g : EF} {l u : GS → MS → Res (Option Int)} (ha : SE X a g) (hl : SP' X lo l) (hu : SP' X hi u) : SE X (.Subscript a (.Slice lo hi none p2) pos) (slE slMV g l u) := fun Γ M => by
  have h1 := ha Γ M
  unfold slE
  cases hf : g Γ M with
  | bad => exact .bad
  | ex x M' => rw [hf] at h1; exact fun F ι σ H R S A => sl_ex (h1 F ι σ H R S A)
  | ok x M1 =>
    rw [hf] at h1
    rw [bind_ok]
    cases e1 : l Γ M1 with
    | bad => exact .bad
    | ex _ _ => exact .bad
    | ok i M2 =>
      dsimp only
      cases e2 : u Γ M2 with
      | bad => exact .bad
      | ex _ _ => exact .bad
      | ok j M3 =>
        dsimp only
        cases e3 : lstD M3 x with
        | none => unfold slMV; rw [e3]; exact .bad
        | some ds =>
          unfold slMV
          rw [e3]
          exact .of (ze_slM (h1.ze (hl Γ M1 i M2 e1 _ (hu Γ M2 j M3 e2 _ ⟨ds, lstD_ok e3, rfl, rfl⟩))))

/-! ### calls of built-ins -/
theorem call_no {v : Value} : CallR X v fun _ _ _ => False := fun _ _ _ _ _ _ _ _ _ h => False.elim h
/-- an exception among the arguments of a built-in -/
def BiEx (X : Cx) (n : Str) (p : Pos) (e : Expr) (es : List Expr) (pos : Pos) : Prop := ∀ σ H Q, wA X (e :: es) σ H (fun _ _ => False) → wE X (.Call (.Name n p) (e :: es) [] pos) σ H Q
theorem biB {n : Str} {id : String} (hm : X.mg n = none) (hv : bootBuiltins n = some (.builtin id)) (hg : Gl X n) (sy : CSyn X e es pos) (hn : n ≠ "__name__" := by decide) (hdb : (n == ("__debug__" : Str)) = false := by decide) : BiEx X n p e es pos := fun σ H Q h =>
  w_e (pe_callB call_no hg hm hv pa_w hn hdb sy.star sy.plain) (h.mono fun _ _ q => False.elim q)
theorem biT {n : Str} {id : String} (hm : X.mg n = none) (hv : bootBuiltins n = some (.type id)) (hg : Gl X n) (sy : CSyn X e es pos) (hn : n ≠ "__name__" := by decide) (hdb : (n == ("__debug__" : Str)) = false := by decide) : BiEx X n p e es pos := fun σ H Q h =>
  w_e (pe_callTy call_no hg hm hv pa_w hn hdb sy.star sy.plain) (h.mono fun _ _ q => False.elim q)
theorem wA_one (sy : CSyn X e [] pos) {σ : St} {H : Hp} {Q : List V → Hp → Prop} (h : wE X e σ H fun _ _ => False) : wA X [e] σ H Q := w_a (pa_cons pe_w pa_w sy.star) (h.mono fun _ _ q => False.elim q)
theorem se_b1 {n : Str} {g : EF} {op : W → MS → Option (W × MS)} (bx : BiEx X n p e [] pos) (sy : CSyn X e [] pos) (ok : ∀ Φ, ZE X e Γ M (fun x M1 => ∃ w M3, op x M1 = some (w, M3) ∧ Φ w M3) → ZE X (.Call (.Name n p) [e] [] pos) Γ M Φ) (h : SR X e Γ M (g Γ M)) :
    SR X (.Call (.Name n p) [e] [] pos) Γ M (unE op g Γ M) := sr_one (op := op) (fun σ H Q h => bx σ H Q (wA_one sy h)) ok h
theorem se_b2 {n : Str} {g1 g2 : EF} {op : W → W → MS → Option (W × MS)} (bx : BiEx X n p e [f] pos) (sy : CSyn X e [f] pos) (sy2 : CSyn X f [] pos) (ok : ∀ Φ, ZE X e Γ M (fun x M1 => ZE X f Γ M1 fun y M2 => ∃ w M3, op x y M2 = some (w, M3) ∧ Φ w M3) → ZE X (.Call (.Name n p) [e, f] [] pos) Γ M Φ)
    (h1 : SR X e Γ M (g1 Γ M)) (h2 : ∀ M1, SR X f Γ M1 (g2 Γ M1)) : SR X (.Call (.Name n p) [e, f] [] pos) Γ M (binE op g1 g2 Γ M) :=
  sr_two (op := op) (fun σ H Q h => bx σ H Q (w_a (pa_cons pe_w pa_w sy.star) (h.mono fun _ _ q => False.elim q))) (fun σ H Q h => bx σ H Q (w_a (pa_cons pe_w pa_w sy.star) (h.mono fun _ _ q => wA_one sy2 q))) ok h1 h2
def lenV (x : W) (M : MS) : Option (W × MS) := match seqW M x with
  | some ws => some (.d (.int (ws.length : Nat)), M)
  | none => match x with
    | .d (.str s) => chk s.length (some (.d (.int (s.length : Nat)), M))
    | _ => none
theorem se_len {g : EF} (hm : X.mg "len" = none) (h : SE X e g) (hg : Gl X "len" := by rfl) (sy : CSyn X e [] pos := by exact ⟨by rfl, by rfl⟩) : SE X (.Call (.Name "len" p) [e] [] pos) (unE lenV g) := fun Γ M =>
  se_b1 (biB hm bt_len hg sy) sy (fun Φ h => zk_len hm (h.mono fun x M1 ⟨w, M3, q, φ⟩ => by
    unfold lenV at q
    split at q
    · rename_i ws hs
      cases q
      rcases seqW_ok hs with ⟨ds, hx, rfl⟩ | ⟨j, rfl, hm⟩
      · exact ⟨_, .inl ⟨ds, hx, by rw [List.length_map]⟩, φ⟩
      · exact ⟨_, .inr (.inl ⟨j, ws, rfl, hm, rfl⟩), φ⟩
    · split at q
      · obtain ⟨z, q⟩ := chk_ok q
        cases q
        exact ⟨_, .inr (.inr ⟨_, rfl, z, rfl⟩), φ⟩
      · cases q) hg sy) (h Γ M)
def absV (x : W) (M : MS) : Option (W × MS) := match x with
  | .d (.int i) => some (.d (.int (if i < 0 then -i else i)), M)
  | _ => none
theorem se_abs {g : EF} (hm : X.mg "abs" = none) (h : SE X e g) (hg : Gl X "abs" := by rfl) (sy : CSyn X e [] pos := by exact ⟨by rfl, by rfl⟩) : SE X (.Call (.Name "abs" p) [e] [] pos) (unE absV g) := fun Γ M =>
  se_b1 (biB hm bt_abs hg sy) sy (fun Φ h => zk_abs hm (h.mono fun x M1 ⟨w, M3, q, φ⟩ => by
    unfold absV at q
    split at q
    · cases q; exact ⟨_, rfl, φ⟩
    · cases q) hg sy) (h Γ M)
def intV1 (x : W) (M : MS) : Option (W × MS) := match x with
  | .d (.int i) => some (.d (.int i), M)
  | .d (.bool c) => some (.d (.int (if c then 1 else 0)), M)
  | _ => none
theorem se_toint {g : EF} (hm : X.mg "int" = none) (h : SE X e g) (hg : Gl X "int" := by rfl) (sy : CSyn X e [] pos := by exact ⟨by rfl, by rfl⟩) : SE X (.Call (.Name "int" p) [e] [] pos) (unE intV1 g) := fun Γ M =>
  se_b1 (biT hm bt_int hg sy) sy (fun Φ h => zk_int hm (h.mono fun x M1 ⟨w, M3, q, φ⟩ => by
    unfold intV1 at q
    split at q
    · cases q; exact .inl ⟨_, rfl, φ⟩
    · cases q; exact .inr ⟨_, rfl, φ⟩
    · cases q) hg sy) (h Γ M)
def maxV : W → W → MS → Option (W × MS) := intV (fun _ _ => true) fun i j => if j > i then j else i
def minV : W → W → MS → Option (W × MS) := intV (fun _ _ => true) fun i j => if j < i then j else i
theorem se_max2 {g1 g2 : EF} (hm : X.mg "max" = none) (hc : X.calm = true) (h1 : SE X e g1) (h2 : SE X f g2) (hg : Gl X "max" := by rfl) (sy : CSyn X e [f] pos := by exact ⟨by rfl, by rfl⟩) (sy2 : CSyn X f [] pos := by exact ⟨by rfl, by rfl⟩) : SE X (.Call (.Name "max" p) [e, f] [] pos) (binE maxV g1 g2) := fun Γ M =>
  se_b2 (biB hm bt_max hg sy) sy sy2 (fun Φ h => zk_max hm hc (h.mono fun x M1 h1 => h1.mono fun y M2 ⟨w, M3, q, φ⟩ => by
    obtain ⟨i, j, rfl, rfl, _, rfl, rfl⟩ := intV_ok q
    exact ⟨i, j, rfl, rfl, φ⟩) hg sy sy2) (h1 Γ M) fun M1 => h2 Γ M1
theorem se_min2 {g1 g2 : EF} (hm : X.mg "min" = none) (hc : X.calm = true) (h1 : SE X e g1) (h2 : SE X f g2) (hg : Gl X "min" := by rfl) (sy : CSyn X e [f] pos := by exact ⟨by rfl, by rfl⟩) (sy2 : CSyn X f [] pos := by exact ⟨by rfl, by rfl⟩) : SE X (.Call (.Name "min" p) [e, f] [] pos) (binE minV g1 g2) := fun Γ M =>
  se_b2 (biB hm bt_min hg sy) sy sy2 (fun Φ h => zk_min hm hc (h.mono fun x M1 h1 => h1.mono fun y M2 ⟨w, M3, q, φ⟩ => by
    obtain ⟨i, j, rfl, rfl, _, rfl, rfl⟩ := intV_ok q
    exact ⟨i, j, rfl, rfl, φ⟩) hg sy sy2) (h1 Γ M) fun M1 => h2 Γ M1
def toList (x : W) (M : MS) : Option (W × MS) := (allD M x).map fun ds => (.d (.list ds), M)
def toListM (x : W) (M : MS) : Option (W × MS) := (allD M x).map fun ds => (.m M.length, M ++ [.lst (ds.map .d)])
def toTup (x : W) (M : MS) : Option (W × MS) := (allD M x).map fun ds => (.d (.tuple ds), M)
theorem se_list {g : EF} (hm : X.mg "list" = none) (h : SE X e g) (hg : Gl X "list" := by rfl) (sy : CSyn X e [] pos := by exact ⟨by rfl, by rfl⟩) : SE X (.Call (.Name "list" p) [e] [] pos) (unE toList g) := fun Γ M =>
  se_b1 (biT hm bt_list hg sy) sy (fun Φ h => zk_list hm (h.mono fun x M1 ⟨w, M3, q, φ⟩ => by
    unfold toList at q
    cases e0 : allD M1 x with
    | none => rw [e0] at q; cases q
    | some ds => rw [e0] at q; cases q; exact ⟨ds, allD_ok e0, φ⟩) hg sy) (h Γ M)
theorem se_listM {g : EF} (hm : X.mg "list" = none) (h : SE X e g) (hg : Gl X "list" := by rfl) (sy : CSyn X e [] pos := by exact ⟨by rfl, by rfl⟩) : SE X (.Call (.Name "list" p) [e] [] pos) (unE toListM g) := fun Γ M =>
  se_b1 (biT hm bt_list hg sy) sy (fun Φ h => zk_listM hm (h.mono fun x M1 ⟨w, M3, q, φ⟩ => by
    unfold toListM at q
    cases e0 : allD M1 x with
    | none => rw [e0] at q; cases q
    | some ds => rw [e0] at q; cases q; exact ⟨ds, allD_ok e0, φ⟩) hg sy) (h Γ M)
theorem se_tuple {g : EF} (hm : X.mg "tuple" = none) (h : SE X e g) (hg : Gl X "tuple" := by rfl) (sy : CSyn X e [] pos := by exact ⟨by rfl, by rfl⟩) : SE X (.Call (.Name "tuple" p) [e] [] pos) (unE toTup g) := fun Γ M =>
  se_b1 (biT hm bt_tuple hg sy) sy (fun Φ h => zk_tuple hm (h.mono fun x M1 ⟨w, M3, q, φ⟩ => by
    unfold toTup at q
    cases e0 : allD M1 x with
    | none => rw [e0] at q; cases q
    | some ds => rw [e0] at q; cases q; exact ⟨ds, allD_ok e0, φ⟩) hg sy) (h Γ M)
/-! repr -/
def reprD (d : PyData) : Option Str := if d.showable && decide (d.depth ≤ 60) && decide (d.shown.length ≤ sizeLine) then some d.shown else none
def reprV (x : W) (M : MS) : Option (W × MS) := (rd M x).bind fun d => (reprD d).map fun s => (.d (.str s), M)
theorem reprD_ok {d : PyData} {s : Str} (h : reprD d = some s) : d.showable = true ∧ d.depth ≤ 60 ∧ d.shown.length ≤ sizeLine ∧ s = d.shown := by
  unfold reprD at h
  split at h
  · rename_i q
    obtain ⟨q1, q3⟩ := Bool.and_eq_true_iff.mp q
    obtain ⟨q1, q2⟩ := Bool.and_eq_true_iff.mp q1
    cases h
    exact ⟨q1, of_decide_eq_true q2, of_decide_eq_true q3, rfl⟩
  · cases h
theorem reprD_of {d : PyData} (h1 : d.showable = true) (h2 : d.depth ≤ 60) (h3 : d.shown.length ≤ sizeLine) : reprD d = some d.shown := by
  unfold reprD
  rw [h1, decide_eq_true h2, decide_eq_true h3]; rfl
theorem se_repr {g : EF} (hr : RoomZ k X.A) (hs : ∃ o, X.base.get? sysModules = some o) (hm : X.mg "repr" = none) (h : SE X e g) (hg : Gl X "repr" := by rfl) (sy : CSyn X e [] pos := by exact ⟨by rfl, by rfl⟩) : SE X (.Call (.Name "repr" p) [e] [] pos) (unE reprV g) := fun Γ M =>
  se_b1 (biB hm bt_repr hg sy) sy (fun Φ h => zb1 (call_repr hr hs) hm bt_repr hg h (fun F ι H M v y Q R rv ψ hQ => by
    obtain ⟨w, M3, q, φ⟩ := ψ
    unfold reprV at q
    cases e0 : rd M y with
    | none => rw [e0] at q; cases q
    | some d =>
      rw [e0] at q
      change (reprD d).map _ = _ at q
      cases e1 : reprD d with
      | none => rw [e1] at q; cases q
      | some s =>
        rw [e1] at q
        cases q
        obtain ⟨h1, h2, h3, rfl⟩ := reprD_ok e1
        exact ⟨H, v, d, rfl, Same.refl H, rd_at R rv e0, h1, h2, h3, hQ _ _ (Post.dat R (.str _) φ)⟩) sy) (h Γ M)
end
end Z

/-! S5: statements as functions. -/
namespace Z
open PySem PySem.Spec PyProof.Rows L2
inductive RS where
  | nx (Γ : GS) (M : MS)
  | rt (w : W) (M : MS)
  | bk (Γ : GS) (M : MS)
  | ct (Γ : GS) (M : MS)
  | ex (x : Exc) (Γ : GS) (M : MS)
  | bad
abbrev SF := GS → MS → RS
/-- a value found, then on -/
def Res.go (r : Res W) (Γ : GS) (k : W → MS → RS) : RS := match r with
  | .ok w M => k w M
  | .ex x M => .ex x Γ M
  | .bad => .bad
def Res.goT (r : Res Bool) (Γ : GS) (k : Bool → MS → RS) : RS := match r with
  | .ok w M => k w M
  | .ex x M => .ex x Γ M
  | .bad => .bad
@[simp] theorem go_ok (w : W) (M : MS) (Γ : GS) (k : W → MS → RS) : (Res.ok w M).go Γ k = k w M := rfl
@[simp] theorem goT_ok (w : Bool) (M : MS) (Γ : GS) (k : Bool → MS → RS) : (Res.ok w M).goT Γ k = k w M := rfl
@[simp] theorem go_ex (x : Exc) (M : MS) (Γ : GS) (k : W → MS → RS) : (Res.ex x M : Res W).go Γ k = .ex x Γ M := rfl
@[simp] theorem goT_ex (x : Exc) (M : MS) (Γ : GS) (k : Bool → MS → RS) : (Res.ex x M : Res Bool).goT Γ k = .ex x Γ M := rfl
@[simp] theorem go_bad (Γ : GS) (k : W → MS → RS) : (Res.bad : Res W).go Γ k = .bad := rfl
@[simp] theorem goT_bad (Γ : GS) (k : Bool → MS → RS) : (Res.bad : Res Bool).goT Γ k = .bad := rfl
def AccS (X : Cx) (F : Hp) (ι : List Addr) (H : Hp) : RS → Prop
  | .ex x Γ' M' => ∃ W, Takes X W ∧ ∀ F' ι' H' σ' cls d, Ext F ι H F' ι' H' → Rep F' H' ι' M' → Slots F' ι' σ' Γ' → ExcIs X F' x cls d → W cls d σ' H'
  | .bad => False
  | _ => True
theorem AccS.step {X : Cx} {F F1 H H1 : Hp} {ι ι1 : List Addr} {r : RS} (h : AccS X F ι H r) (E : Ext F ι H F1 ι1 H1) : AccS X F1 ι1 H1 r := by
  cases r with
  | ex x Γ' M' =>
    obtain ⟨W, tk, k⟩ := h
    exact ⟨W, tk, fun F' ι' H' σ' cls d E' R S q => k F' ι' H' σ' cls d (E.trans E') R S q⟩
  | bad => exact h
  | _ => trivial
theorem AccS.e {X : Cx} {F H : Hp} {ι : List Addr} {σ : St} {Γ : GS} {x : Exc} {M' : MS} (h : AccS X F ι H (.ex x Γ M')) (S : Slots F ι σ Γ) : XAcc X F ι σ H x M' :=
  let ⟨W, tk, k⟩ := h
  ⟨W, tk, fun F' ι' H' cls d E R q => k F' ι' H' σ cls d E R (E.slots S) q⟩
def PRS (F : Hp) (ι : List Addr) (H : Hp) (r : RS) : Ends := match r with
  | .nx Γ' M' => { nx := PostG F ι H fun Γ'' M'' => Γ'' = Γ' ∧ M'' = M', rt := fun _ _ => False, bk := fun _ _ => False, ct := fun _ _ => False }
  | .rt w M' => { nx := fun _ _ => False, rt := Post F ι H fun w' M'' => w' = w ∧ M'' = M', bk := fun _ _ => False, ct := fun _ _ => False }
  | .bk Γ' M' => { nx := fun _ _ => False, rt := fun _ _ => False, bk := PostG F ι H fun Γ'' M'' => Γ'' = Γ' ∧ M'' = M', ct := fun _ _ => False }
  | .ct Γ' M' => { nx := fun _ _ => False, rt := fun _ _ => False, bk := fun _ _ => False, ct := PostG F ι H fun Γ'' M'' => Γ'' = Γ' ∧ M'' = M' }
  | _ => { nx := fun _ _ => False, rt := fun _ _ => False, bk := fun _ _ => False, ct := fun _ _ => False }
theorem PRS.ext {F F1 H H1 : Hp} {ι ι1 : List Addr} (x : Ext F ι H F1 ι1 H1) (r : RS) : Ends.Le (PRS F1 ι1 H1 r) (PRS F ι H r) := by
  cases r with
  | nx Γ' M' => exact ⟨fun _ _ h => PostG.ext (Φ := fun Γ'' M'' => Γ'' = Γ' ∧ M'' = M') x h, fun _ _ h => h, fun _ _ h => h, fun _ _ h => h⟩
  | rt w M' => exact ⟨fun _ _ h => h, fun _ _ h => Post.ext (Φ := fun w' M'' => w' = w ∧ M'' = M') x h, fun _ _ h => h, fun _ _ h => h⟩
  | bk Γ' M' => exact ⟨fun _ _ h => h, fun _ _ h => h, fun _ _ h => PostG.ext (Φ := fun Γ'' M'' => Γ'' = Γ' ∧ M'' = M') x h, fun _ _ h => h⟩
  | ct Γ' M' => exact ⟨fun _ _ h => h, fun _ _ h => h, fun _ _ h => h, fun _ _ h => PostG.ext (Φ := fun Γ'' M'' => Γ'' = Γ' ∧ M'' = M') x h⟩
  | ex _ _ _ => exact ⟨fun _ _ h => h, fun _ _ h => h, fun _ _ h => h, fun _ _ h => h⟩
  | bad => exact ⟨fun _ _ h => h, fun _ _ h => h, fun _ _ h => h, fun _ _ h => h⟩
def SRS (X : Cx) (st : Stmt) (Γ : GS) (M : MS) (r : RS) : Prop := ∀ F ι σ H, Rep F H ι M → Slots F ι σ Γ → AccS X F ι H r → wS X st (PRS F ι H r) σ H
def SRSs (X : Cx) (st : List Stmt) (Γ : GS) (M : MS) (r : RS) : Prop := ∀ F ι σ H, Rep F H ι M → Slots F ι σ Γ → AccS X F ι H r → wSs X st (PRS F ι H r) σ H
def SS (X : Cx) (st : Stmt) (f : SF) : Prop := ∀ Γ M, SRS X st Γ M (f Γ M)
def SSs (X : Cx) (st : List Stmt) (f : SF) : Prop := ∀ Γ M, SRSs X st Γ M (f Γ M)
/-- ends by what the function says -/
def zdOf (r : RS) : ZD := { nx := fun Γ M => r = .nx Γ M, rt := fun w M => r = .rt w M, bk := fun Γ M => r = .bk Γ M, ct := fun Γ M => r = .ct Γ M }
theorem zd_le {F H : Hp} {ι : List Addr} (r : RS) : Ends.Le ((zdOf r).ends F ι H) (PRS F ι H r) := by
  refine ⟨?_, ?_, ?_, ?_⟩
  · rintro σ' H' ⟨F', ι', M', Γ', a, b, c, e⟩
    have e : r = .nx Γ' M' := e
    subst e
    exact ⟨F', ι', M', Γ', a, b, c, rfl, rfl⟩
  · rintro v H' ⟨F', ι', M', w, a, b, c, e⟩
    have e : r = .rt w M' := e
    subst e
    exact ⟨F', ι', M', w, a, b, c, rfl, rfl⟩
  · rintro σ' H' ⟨F', ι', M', Γ', a, b, c, e⟩
    have e : r = .bk Γ' M' := e
    subst e
    exact ⟨F', ι', M', Γ', a, b, c, rfl, rfl⟩
  · rintro σ' H' ⟨F', ι', M', Γ', a, b, c, e⟩
    have e : r = .ct Γ' M' := e
    subst e
    exact ⟨F', ι', M', Γ', a, b, c, rfl, rfl⟩
section
variable {X : Cx} {e a b c o f : Expr} {st : Stmt} {rest sa sb : List Stmt} {pos : Pos} {Γ : GS} {M : MS} {k : Nat}
theorem SRS.bad : SRS X st Γ M .bad := fun _ _ _ _ _ _ a => False.elim a
theorem SRS.of {r : RS} (h : ZS X st Γ M (zdOf r)) : SRS X st Γ M r := fun F ι σ H R S _ => (h F ι σ H R S).mono (zd_le r)
theorem SRSs.of {r : RS} (h : ZSs X rest Γ M (zdOf r)) : SRSs X rest Γ M r := fun F ι σ H R S _ => (h F ι σ H R S).mono (zd_le r)
def nilS : SF := fun Γ M => .nx Γ M
def seqS (f g : SF) : SF := fun Γ M => match f Γ M with
  | .nx Γ1 M1 => g Γ1 M1
  | r => r
theorem ss_nil : SSs X [] nilS := fun Γ M => .of (zs_nil rfl)
theorem ss_cons {f g : SF} (h1 : SS X st f) (h2 : SSs X rest g) : SSs X (st :: rest) (seqS f g) := fun Γ M F ι σ H R S A => by
  have q := h1 Γ M F ι σ H R S
  unfold seqS at A ⊢
  cases hf : f Γ M with
  | nx Γ1 M1 =>
    rw [hf] at q A
    refine w_ss (pss_cons ps_w pss_w) ((q trivial).mono ⟨?_, fun _ _ h => False.elim h, fun _ _ h => False.elim h, fun _ _ h => False.elim h⟩)
    rintro σ1 H1 ⟨F1, ι1, M2, Γ2, E, R1, S1, e1, e2⟩
    subst e1 e2
    exact (h2 Γ2 M2 F1 ι1 σ1 H1 R1 S1 (A.step E)).mono (PRS.ext E _)
  | rt w M1 =>
    rw [hf] at q A
    exact w_ss (pss_cons ps_w pss_w) ((q trivial).mono ⟨fun _ _ h => False.elim h, fun _ _ h => h, fun _ _ h => False.elim h, fun _ _ h => False.elim h⟩)
  | bk w M1 =>
    rw [hf] at q A
    exact w_ss (pss_cons ps_w pss_w) ((q trivial).mono ⟨fun _ _ h => False.elim h, fun _ _ h => False.elim h, fun _ _ h => h, fun _ _ h => False.elim h⟩)
  | ct w M1 =>
    rw [hf] at q A
    exact w_ss (pss_cons ps_w pss_w) ((q trivial).mono ⟨fun _ _ h => False.elim h, fun _ _ h => False.elim h, fun _ _ h => False.elim h, fun _ _ h => h⟩)
  | ex x Γ1 M1 =>
    rw [hf] at q A
    exact w_ss (pss_cons ps_w pss_w) ((q A).mono ⟨fun _ _ h => False.elim h, fun _ _ h => False.elim h, fun _ _ h => False.elim h, fun _ _ h => False.elim h⟩)
  | bad => rw [hf] at A; exact False.elim A
/-- a statement that begins with an expression -/
theorem srs_e {r : Res W} {kk : W → MS → RS} (exa : ∀ σ H D, wE X e σ H (fun _ _ => False) → wS X st D σ H) (h : SR X e Γ M r) (ok : ∀ w M1, r = .ok w M1 → SRS X st Γ M (kk w M1)) : SRS X st Γ M (r.go Γ kk) := by
  cases r with
  | bad => exact .bad
  | ex x M' => exact fun F ι σ H R S A => exa σ H _ (h F ι σ H R S (AccS.e A S))
  | ok w M1 => exact ok w M1 rfl
theorem wE_f {σ : St} {H : Hp} {Q : VK} (h : wE X e σ H fun _ _ => False) : wE X e σ H Q := h.mono fun _ _ q => False.elim q
def exprS (f : EF) : SF := fun Γ M => (f Γ M).go Γ fun _ M1 => .nx Γ M1
theorem ss_expr {g : EF} (h : SE X e g) (hs : swapsWith e none pos.line X.env = pure false := by rfl) : SS X (.Expr e pos) (exprS g) := fun Γ M =>
  srs_e (fun σ H D q => w_s (ps_expr pe_w hs) (wE_f q)) (h Γ M) fun w M1 e1 => .of (zs_expr ((e1 ▸ h Γ M).ze rfl) hs)
def retS (f : EF) : SF := fun Γ M => (f Γ M).go Γ fun w M1 => .rt w M1
theorem ss_ret {g : EF} (h : SE X e g) : SS X (.Return (some e) pos) (retS g) := fun Γ M =>
  srs_e (fun σ H D q => w_s (ps_ret pe_w) (wE_f q)) (h Γ M) fun w M1 e1 => .of (zs_ret ((e1 ▸ h Γ M).ze rfl))
def retNS : SF := fun _ M => .rt (.d .none) M
theorem ss_retN : SS X (.Return none pos) retNS := fun Γ M => .of (zs_retN rfl)
theorem ss_pass : SS X (.Pass pos) nilS := fun Γ M => .of (zs_pass rfl)
def bkS : SF := fun Γ M => .bk Γ M
def ctS : SF := fun Γ M => .ct Γ M
theorem ss_break : SS X (.Break pos) bkS := fun Γ M => .of (zs_break rfl)
theorem ss_continue : SS X (.Continue pos) ctS := fun Γ M => .of (zs_continue rfl)
/-- a statement of which nothing is told -/
def noS : SF := fun _ _ => .bad
theorem ss_no : SS X st noS := fun _ _ => .bad
def ifS (t : TF) (f g : SF) : SF := fun Γ M => (t Γ M).goT Γ fun b M1 => if b then f Γ M1 else g Γ M1
theorem ss_if {t : TF} {f g : SF} (hc : ST X c t) (ha : SSs X sa f) (hb : SSs X sb g) : SS X (.If c sa sb pos) (ifS t f g) := fun Γ M F ι σ H R S A => by
  have h1 := hc Γ M
  unfold ifS at A ⊢
  cases hf : t Γ M with
  | bad => rw [hf] at A; exact False.elim A
  | ex x M' =>
    rw [hf] at A h1
    exact w_s (ps_if pt_w pss_w pss_w) ((h1 F ι σ H R S (AccS.e A S)).mono fun _ _ q => False.elim q)
  | ok x M1 =>
    rw [hf] at A h1
    rw [goT_ok] at A ⊢
    refine w_s (ps_if pt_w pss_w pss_w) ((h1 F ι σ H R S trivial).mono ?_)
    rintro c' H1 ⟨F1, ι1, M2, E1, R1, e1, e2⟩
    subst e1 e2
    cases c' with
    | true => exact (ha Γ M2 F1 ι1 σ H1 R1 (E1.slots S) (A.step E1)).mono (PRS.ext E1 _)
    | false => exact (hb Γ M2 F1 ι1 σ H1 R1 (E1.slots S) (A.step E1)).mono (PRS.ext E1 _)

/-! ### targets -/
abbrev TGF := W → GS → MS → Option (GS × MS)
abbrev TGFs := List W → GS → MS → Option (GS × MS)
def SG (X : Cx) (tg : Expr) (g : TGF) : Prop := ∀ w Γ M Γ' M', g w Γ M = some (Γ', M') → ∀ Φ : GS → MS → Prop, Φ Γ' M' → ZG X tg w Γ M Φ
def SGs (X : Cx) (ts : List Expr) (g : TGFs) : Prop := ∀ ws Γ M Γ' M', g ws Γ M = some (Γ', M') → ∀ Φ : GS → MS → Prop, Φ Γ' M' → ZGs X ts ws Γ M Φ
def wGs (X : Cx) (ts : List Expr) : TGs := fun vs σ H Q => ∀ pins s us, Inv X pins σ H s → Vals vs us → wpAny (model X.prog X.w) X.A (assignInOrder ((assignEach ts X.env).map (·.2)) us) (fun _ s' => ∃ σ' H', Inv X pins σ' H' s' ∧ Q σ' H') X.xe s
theorem pgs_w {ts : List Expr} : PGs X ts (wGs X ts) := ⟨fun pins s _ _ _ us _ I r h => h pins s us I r⟩
theorem w_gs {ts : List Expr} {t : TGs} {vs : List V} {σ : St} {H : Hp} {Q : St → Hp → Prop} (h : PGs X ts t) (q : t vs σ H Q) : wGs X ts vs σ H Q := fun pins s us I r => h.run pins s σ H vs us Q I r q
theorem wGs.mono {ts : List Expr} {vs : List V} {σ : St} {H : Hp} {Q Q' : St → Hp → Prop} (h : wGs X ts vs σ H Q) (k : ∀ σ' H', Q σ' H' → Q' σ' H') : wGs X ts vs σ H Q' := fun pins s us I r =>
  thn (h pins s us I r) fun _ _ ⟨σ', H', I', q⟩ => ⟨σ', H', I', k σ' H' q⟩
def nmG (i : Nat) : TGF := fun w Γ M => some (Γ.set i (some w), M)
theorem sg_nm (i : Nat) {x : Str} (hN : X.N.Nodup) (hi : X.N[i]? = some x := by rfl) (hx : Loc X.env.scope x := by first | exact Or.inl rfl | exact Or.inr rfl)
    (hf : X.fn x = true ∨ X.env.scope.names.lookup x = some .local := by first | exact .inl rfl | exact .inr rfl) : SG X (.Name x pos) (nmG i) := fun w Γ M Γ' M' h Φ φ => by
  cases h
  exact zg_name i φ hN hi hx hf
def nilG : TGFs := fun ws Γ M => match ws with
  | [] => some (Γ, M)
  | _ => none
def consG (g : TGF) (h : TGFs) : TGFs := fun ws Γ M => match ws with
  | w :: ws => (g w Γ M).bind fun q => h ws q.1 q.2
  | [] => none
theorem sgs_nil : SGs X [] nilG := fun ws Γ M Γ' M' h Φ φ => by
  cases ws with
  | nil => cases h; exact zgs_nil φ
  | cons _ _ => cases h
theorem sgs_cons {t : Expr} {ts : List Expr} {g : TGF} {h : TGFs} (h1 : SG X t g) (h2 : SGs X ts h) (hs : (assignEach (t :: ts) X.env).map (·.2) = assign t X.env :: (assignEach ts X.env).map (·.2) := by rfl) : SGs X (t :: ts) (consG g h) := fun ws Γ M Γ' M' e Φ φ => by
  cases ws with
  | nil => cases e
  | cons w ws =>
    change (g w Γ M).bind _ = _ at e
    cases q : g w Γ M with
    | none => rw [q] at e; cases e
    | some p =>
      rw [q] at e
      obtain ⟨Γ1, M1⟩ := p
      intro F ι σ H vs R S r
      cases r with
      | cons r1 r2 =>
        rename_i v vs
        refine ⟨_, pgs_cons pg_w pgs_w hs, v, vs, rfl, (h1 w Γ M Γ1 M1 q _ ⟨rfl, rfl⟩ F ι σ H v R S r1 : wG X t v σ H (PostG F ι H fun Γ2 M2 => Γ2 = Γ1 ∧ M2 = M1)).mono ?_⟩
        rintro σ2 H2 ⟨F2, ι2, M2, Γ2, E2, R2, S2, e1, e2⟩
        subst e1 e2
        obtain ⟨t, p, q2⟩ := h2 ws Γ2 M2 Γ' M' e Φ φ F2 ι2 σ2 H2 vs R2 S2 (E2.rws r2)
        exact (w_gs p q2).mono fun _ _ z => PostG.ext E2 z
end
end Z

/-! S6: stores, loops, methods. -/
namespace Z
open PySem PySem.Spec PyProof.Rows L2
section
variable {X : Cx} {e a b c o f tg it : Expr} {es : List Expr} {st : Stmt} {rest sa sb body : List Stmt} {pos p apos cpos : Pos} {Γ : GS} {M : MS} {k : Nat}
/-! ### stores -/
def setS (i : Nat) (f : EF) : SF := fun Γ M => (f Γ M).go Γ fun w M1 => .nx (Γ.set i (some w)) M1
theorem ss_set (i : Nat) {x : Str} {pos' : Pos} {g : EF} (h : SE X e g) (hN : X.N.Nodup) (hi : X.N[i]? = some x := by rfl) (hx : Loc X.env.scope x := by first | exact Or.inl rfl | exact Or.inr rfl)
    (hs : swapsWith e (some (.Name x pos')) pos.line X.env = pure false := by rfl) (hf : X.fn x = true ∨ X.env.scope.names.lookup x = some .local := by first | exact .inl rfl | exact .inr rfl) : SS X (.Assign [.Name x pos'] e pos) (setS i g) := fun Γ M =>
  srs_e (fun σ H D q => w_s (ps_set hN hi hx pe_w hs hf) (wE_f q)) (h Γ M) fun w M1 e1 => .of (zs_set i ((e1 ▸ h Γ M).ze rfl) hN hi hx hs hf)
def asgS (f : EF) (g : TGF) : SF := fun Γ M => (f Γ M).go Γ fun w M1 => match g w Γ M1 with
  | some (Γ2, M2) => .nx Γ2 M2
  | none => .bad
theorem ss_asg {f : EF} {g : TGF} (h : SE X e f) (hg : SG X tg g) (hs : swapsWithSole [tg] e pos.line X.env = pure false := by rfl) (hw : swappedStores [tg] e X.env = pure none := by rfl) (h1 : (assignEach [tg] X.env).map (·.2) = [assign tg X.env] := by rfl) :
    SS X (.Assign [tg] e pos) (asgS f g) := fun Γ M =>
  srs_e (fun σ H D q => w_s (ps_asg pe_w pg_w hs hw h1) (wE_f q)) (h Γ M) fun w M1 e1 => by
    cases q : g w Γ M1 with
    | none => exact .bad
    | some r => exact .of (zs_asg ((e1 ▸ h Γ M).ze (hg w Γ M1 _ _ q _ rfl)) hs hw h1)
def tupG (n : Nat) (g : TGFs) : TGF := fun w Γ M => match w with
  | .d (.tuple ds) => if ds.length = n then g (ds.map .d) Γ M else none
  | _ => none
theorem sg_tup {n : Nat} {g : TGFs} {q : Nat} (hc : X.calm = true) (h : SGs X es g) (hn : (assignEach es X.env).length = n := by rfl) (hst : (assignEach es X.env).findIdx? (·.1) = none := by rfl) : SG X (.Tuple es q pos) (tupG n g) := fun w Γ M Γ' M' e Φ φ => by
  unfold tupG at e
  split at e
  · split at e
    · exact zg_tup hc (h _ Γ M Γ' M' e Φ φ) (by assumption) hn hst
    · cases e
  · cases e
def setL (ws : List W) (k : PyData) (w : W) (j : Nat) (M : MS) : Option MS := match k with
  | .int i => (ixN ws.length i).map fun n => M.set j (.lst (ws.set n w))
  | _ => none
def setK (ks : List (Key × W)) (k : PyData) (w : W) (j : Nat) (M : MS) : Option MS := (keyOf k).bind fun q => if ks.length < sizeLine then some (M.set j (.dic (putW ks q w))) else none
def setV (x y w : W) (M : MS) : Option MS := match x, y with
  | .m j, .d k => (match M[j]? with
    | some (.lst ws) => setL ws k w j M
    | some (.dic ks) => setK ks k w j M
    | _ => none)
  | _, _ => none
theorem setV_ok {x y w : W} {M M' : MS} {Ψ : MS → Prop} (h : setV x y w M = some M') (ψ : Ψ M') : SetW x y w M Ψ := by
  unfold setV at h
  split at h
  · rename_i j k
    split at h
    · rename_i ws hm
      unfold setL at h
      split at h
      · rename_i i
        cases q : ixN ws.length i with
        | none => rw [q] at h; cases h
        | some n => rw [q] at h; cases h; exact .inl ⟨j, ws, i, n, rfl, rfl, hm, q, ψ⟩
      · cases h
    · rename_i ks hm
      unfold setK at h
      cases hq : keyOf k with
      | none => rw [hq] at h; cases h
      | some q =>
        rw [hq] at h
        have h : (if ks.length < sizeLine then some (M.set j (.dic (putW ks q w))) else none) = some M' := h
        split at h
        · cases h; exact .inr ⟨j, ks, q, rfl, by rw [keyOf_ok hq], hm, by assumption, ψ⟩
        · cases h
    · cases h
  · cases h
def subG (fo fe : EF) : TGF := fun w Γ M => match fo Γ M with
  | .ok x M1 => (match fe Γ M1 with
    | .ok y M2 => (setV x y w M2).map fun M3 => (Γ, M3)
    | _ => none)
  | _ => none
theorem sg_sub {fo fe : EF} (hr : RoomZ k X.A) (h1 : SE X o fo) (h2 : SE X e fe) (ha : ∀ v, assign (.Subscript o e pos) X.env v = (do
      let ov ← holding [v] (eval o X.env)
      let iv ← holding [v, ov] (eval e X.env)
      standAt pos
      holding [v, ov, iv] (setItem ov iv v)
      release [v, ov, iv] []) := by intro _; rfl) : SG X (.Subscript o e pos) (subG fo fe) := fun w Γ M Γ' M' q Φ φ => by
  unfold subG at q
  have q1 := h1 Γ M
  cases e1 : fo Γ M with
  | bad => rw [e1] at q; cases q
  | ex _ _ => rw [e1] at q; cases q
  | ok x M1 =>
    rw [e1] at q q1
    dsimp only at q
    have q2 := h2 Γ M1
    cases e2 : fe Γ M1 with
    | bad => rw [e2] at q; cases q
    | ex _ _ => rw [e2] at q; cases q
    | ok y M2 =>
      rw [e2] at q q2
      dsimp only at q
      cases e3 : setV x y w M2 with
      | none => rw [e3] at q; cases q
      | some M3 =>
        rw [e3] at q
        cases q
        exact zg_sub hr (q1.ze (q2.ze (setV_ok e3 φ))) ha
/-- a, b = x, y; a, b, c = x, y, z -/
def parS (i j : Nat) (f g : EF) : SF := fun Γ M => (f Γ M).go Γ fun v M1 => (g Γ M1).go Γ fun w M2 => .nx ((Γ.set i (some v)).set j (some w)) M2
def par3S (i j l : Nat) (f g h : EF) : SF := fun Γ M => (f Γ M).go Γ fun v M1 => (g Γ M1).go Γ fun w M2 => (h Γ M2).go Γ fun u M3 => .nx (((Γ.set i (some v)).set j (some w)).set l (some u)) M3
/-- only values: an exception among them is not told -/
def Res.only (r : Res W) (k : W → MS → RS) : RS := match r with
  | .ok w M => k w M
  | _ => .bad
def onlyE (f : EF) : EF := fun Γ M => match f Γ M with
  | .ok w M1 => .ok w M1
  | _ => .bad
theorem ss_par (i j : Nat) {x y : Str} {px py pt : Pos} {kt k2 pt2} {g1 g2 : EF} (hc : X.calm = true) (h1 : SE X a g1) (h2 : SE X b g2) (hN : X.N.Nodup) (hi : X.N[i]? = some x := by rfl) (hj : X.N[j]? = some y := by rfl) (hij : i ≠ j := by decide)
    (hx : X.env.scope.names.lookup x = some .local := by rfl) (hy : X.env.scope.names.lookup y = some .local := by rfl)
    (hw : swappedStores [.Tuple [.Name x px, .Name y py] kt pt] (.Tuple [a, b] k2 pt2) X.env = pure (some [x, y]) := by rfl)
    (hs : swapsWithSole [.Tuple [.Name x px, .Name y py] kt pt] (.Tuple [a, b] k2 pt2) pos.line X.env = pure false := by rfl)
    (hs1 : starEach [a, b] X.env = (false, eval a X.env) :: starEach [b] X.env := by rfl) (hs2 : starEach [b] X.env = (false, eval b X.env) :: starEach [] X.env := by rfl) :
    SS X (.Assign [.Tuple [.Name x px, .Name y py] kt pt] (.Tuple [a, b] k2 pt2) pos) (parS i j g1 g2) := fun Γ M => by
  have q1 := h1 Γ M
  unfold parS
  cases e1 : g1 Γ M with
  | bad => exact .bad
  | ex x' M' =>
    rw [e1] at q1
    exact fun F ι σ H R S A => w_s (ps_par hc hN hi hj hij hx hy pa_w hw hs) (w_a (pa_cons pe_w pa_w hs1) ((q1 F ι σ H R S (AccS.e A S)).mono fun _ _ q => False.elim q))
  | ok v M1 =>
    rw [e1] at q1
    rw [go_ok]
    have q2 := h2 Γ M1
    cases e2 : g2 Γ M1 with
    | bad => exact .bad
    | ok w M2 =>
      rw [e2] at q2
      exact .of (zs_par i j hc (q1.ze (q2.ze rfl)) hN hi hj hij hx hy hw hs hs1 hs2)
    | ex y' M' =>
      rw [e2] at q2
      intro F ι σ H R S A
      refine w_s (ps_par hc hN hi hj hij hx hy pa_w hw hs) (w_a (pa_cons pe_w pa_w hs1) ((q1 F ι σ H R S trivial).mono ?_))
      rintro v' H1 ⟨F1, ι1, M2, w2, E, R1, r, e3, e4⟩
      subst e4
      exact w_a (pa_cons pe_w pa_w hs2) ((q2 F1 ι1 σ H1 R1 (E.slots S) (AccS.e (A.step E) (E.slots S))).mono fun _ _ q => False.elim q)
theorem ss_par3 (i j l : Nat) {x y z : Str} {px py pz pt : Pos} {kt k2 pt2} {g1 g2 g3 : EF} (hc : X.calm = true) (h1 : SE X a g1) (h2 : SE X b g2) (h3 : SE X c g3) (hN : X.N.Nodup) (hi : X.N[i]? = some x := by rfl) (hj : X.N[j]? = some y := by rfl) (hl : X.N[l]? = some z := by rfl) (hij : i ≠ j := by decide) (hil : i ≠ l := by decide) (hjl : j ≠ l := by decide)
    (hx : X.env.scope.names.lookup x = some .local := by rfl) (hy : X.env.scope.names.lookup y = some .local := by rfl) (hz : X.env.scope.names.lookup z = some .local := by rfl)
    (hw : swappedStores [.Tuple [.Name x px, .Name y py, .Name z pz] kt pt] (.Tuple [a, b, c] k2 pt2) X.env = pure (some [x, y, z]) := by rfl)
    (hs : swapsWithSole [.Tuple [.Name x px, .Name y py, .Name z pz] kt pt] (.Tuple [a, b, c] k2 pt2) pos.line X.env = pure false := by rfl)
    (hs1 : starEach [a, b, c] X.env = (false, eval a X.env) :: starEach [b, c] X.env := by rfl) (hs2 : starEach [b, c] X.env = (false, eval b X.env) :: starEach [c] X.env := by rfl) (hs3 : starEach [c] X.env = (false, eval c X.env) :: starEach [] X.env := by rfl) :
    SS X (.Assign [.Tuple [.Name x px, .Name y py, .Name z pz] kt pt] (.Tuple [a, b, c] k2 pt2) pos) (par3S i j l (onlyE g1) (onlyE g2) (onlyE g3)) := fun Γ M => by
  have q1 := h1 Γ M
  unfold par3S onlyE
  cases e1 : g1 Γ M with
  | bad => exact .bad
  | ex x' M' => exact .bad
  | ok v M1 =>
    rw [e1] at q1
    rw [go_ok]
    have q2 := h2 Γ M1
    cases e2 : g2 Γ M1 with
    | bad => exact .bad
    | ex x' M' => exact .bad
    | ok w M2 =>
      rw [e2] at q2
      rw [go_ok]
      have q3 := h3 Γ M2
      cases e3 : g3 Γ M2 with
      | bad => exact .bad
      | ex x' M' => exact .bad
      | ok u M3 =>
        rw [e3] at q3
        exact .of (zs_par3 i j l hc (q1.ze (q2.ze (q3.ze rfl))) hN hi hj hl hij hil hjl hx hy hz hw hs hs1 hs2 hs3)
/-! x op= e -/
def augNS (i : Nat) (g : Int → Int → Int) (f : EF) : SF := fun Γ M => match Γ[i]? with
  | some (some (.d (.int n))) => (match f Γ M with
    | .ok (.d (.int m)) M1 => .nx (Γ.set i (some (.d (.int (g n m))))) M1
    | _ => .bad)
  | _ => .bad
theorem ss_augN (i : Nat) {x : Str} {pos' : Pos} {op : Operator} {g : Int → Int → Int} {f1 : EF} (hp : PIp X op (ipI g)) (h : SE X e f1) (hN : X.N.Nodup) (hi : X.N[i]? = some x := by rfl) (hx : Loc X.env.scope x := by first | exact Or.inl rfl | exact Or.inr rfl)
    (hf : X.fn x = true ∨ X.env.scope.names.lookup x = some .local := by first | exact .inl rfl | exact .inr rfl) : SS X (.AugAssign (.Name x pos') op e pos) (augNS i g f1) := fun Γ M => by
  unfold augNS
  split
  · rename_i n h0
    split
    · rename_i m M1 e1
      have q1 := h Γ M
      rw [e1] at q1
      exact .of (zs_augN i hp h0 (q1.ze ⟨m, rfl, rfl⟩) hN hi hx hf)
    · exact .bad
  · exact .bad
/-- what stands at a place of a cell -/
def oldV (mo : MO) (k : PyData) : Option W := match mo with
  | .lst ws => (match k with
    | .int i => if 0 ≤ i then atI ws i else none
    | _ => none)
  | .dic ks => (keyOf k).bind (lookK ks)
  | .dil _ => none
  | .gone => none
theorem oldV_ok {M : MS} {j : Nat} {mo : MO} {k : PyData} {w : W} (hm : M[j]? = some mo) (h : oldV mo k = some w) {Ψ : W → Prop} (ψ : Ψ w) : AGet (.m j) (.d k) M Ψ := by
  unfold oldV at h
  cases mo with
  | gone => cases h
  | dil ws => cases h
  | lst ws =>
    dsimp only at h
    split at h
    · rename_i i
      split at h
      · exact .inl ⟨j, ws, i, w, rfl, rfl, hm, h, by assumption, ψ⟩
      · cases h
    · cases h
  | dic ks =>
    dsimp only at h
    cases hq : keyOf k with
    | none => rw [hq] at h; cases h
    | some q =>
      rw [hq] at h
      have h : lookK ks q = some w := h
      exact .inr ⟨q, w, by rw [keyOf_ok hq], .inr ⟨j, ks, rfl, .inl hm, h.symm⟩, ψ⟩
def intW : W → Option Int
  | .d (.int n) => some n
  | _ => none
theorem intW_ok {w : W} {n : Int} (h : intW w = some n) : w = .d (.int n) := by
  unfold intW at h
  split at h
  · cases h; rfl
  · cases h
@[simp] theorem intW_i (n : Int) : intW (.d (.int n)) = some n := rfl
def augAt (g : Int → Int → Int) (j : Nat) (k : PyData) (ff : EF) (Γ : GS) (M : MS) : RS := match (M[j]?).bind fun mo => (oldV mo k).bind intW with
  | some n => (match ff Γ M with
    | .ok z M3 => (match (intW z).bind fun m => setV (.m j) (.d k) (.d (.int (g n m))) M3 with
      | some M4 => .nx Γ M4
      | none => .bad)
    | _ => .bad)
  | none => .bad
/-- o[e] op= f, whole numbers, in a cell -/
def augSS (g : Int → Int → Int) (fo fe ff : EF) : SF := fun Γ M => match fo Γ M with
  | .ok x M1 => (match fe Γ M1 with
    | .ok y M2 => (match x, y with
      | .m j, .d k => augAt g j k ff Γ M2
      | _, _ => .bad)
    | _ => .bad)
  | _ => .bad
theorem ss_augS {op : Operator} {g : Int → Int → Int} {tpos : Pos} {fo fe ff : EF} (hr : RoomZ k X.A) (hp : PIp X op (ipI g)) (h1 : SE X o fo) (h2 : SE X e fe) (h3 : SE X f ff)
    (ha : ∀ ov iv new, augStore e ov iv new = (do holding [new, ov, iv] (setItem ov iv new); release [new, ov, iv] []; pure .next) := by intros; rfl) : SS X (.AugAssign (.Subscript o e tpos) op f pos) (augSS g fo fe ff) := fun Γ M => by
  have q1 := h1 Γ M
  unfold augSS
  cases e1 : fo Γ M with
  | bad => exact .bad
  | ex _ _ => exact .bad
  | ok x M1 =>
    rw [e1] at q1
    dsimp only
    have q2 := h2 Γ M1
    cases e2 : fe Γ M1 with
    | bad => exact .bad
    | ex _ _ => exact .bad
    | ok y M2 =>
      rw [e2] at q2
      dsimp only
      cases x with
      | d _ => exact .bad
      | m j =>
        cases y with
        | m _ => exact .bad
        | d key =>
          dsimp only
          unfold augAt
          cases hm : M2[j]? with
          | none => exact .bad
          | some mo =>
            cases ho : oldV mo key with
            | none => rw [show (some mo).bind (fun mo => (oldV mo key).bind intW) = none by show (oldV mo key).bind intW = none; rw [ho]; rfl]; exact .bad
            | some w =>
              cases hw : intW w with
              | none => rw [show (some mo).bind (fun mo => (oldV mo key).bind intW) = none by show (oldV mo key).bind intW = none; rw [ho]; exact hw]; exact .bad
              | some n =>
                rw [show (some mo).bind (fun mo => (oldV mo key).bind intW) = some n by show (oldV mo key).bind intW = some n; rw [ho]; exact hw]
                dsimp only
                have q3 := h3 Γ M2
                cases e3 : ff Γ M2 with
                | bad => exact .bad
                | ex _ _ => exact .bad
                | ok z M3 =>
                  rw [e3] at q3
                  dsimp only
                  cases hz : intW z with
                  | none => exact .bad
                  | some m =>
                    cases hs : setV (.m j) (.d key) (.d (.int (g n m))) M3 with
                    | none => rw [show (some m).bind (fun m => setV (.m j) (.d key) (.d (.int (g n m))) M3) = none from hs]; exact .bad
                    | some M4 =>
                      rw [show (some m).bind (fun m => setV (.m j) (.d key) (.d (.int (g n m))) M3) = some M4 from hs]
                      exact .of (zs_aug hr hp (q1.ze (q2.ze (oldV_ok hm ho (q3.ze ⟨n, m, intW_ok hw, intW_ok hz, setV_ok hs rfl⟩)))) ha)

/-! ### what is walked -/
def IF := GS → MS → Res (List PyData)
def SIr (X : Cx) (tg it : Expr) (Γ : GS) (M : MS) : Res (List PyData) → Prop
  | .ok ds M' => ∀ Ψ : List PyData → MS → Prop, Ψ ds M' → ZI X tg it Γ M Ψ
  | .ex x M' => ∀ F ι σ H, Rep F H ι M → Slots F ι σ Γ → XAcc X F ι σ H x M' → wI X tg it σ H fun _ _ => False
  | .bad => True
def SI (X : Cx) (tg it : Expr) (f : IF) : Prop := ∀ Γ M, SIr X tg it Γ M (f Γ M)
def seqD : W → Option (List PyData)
  | .d (.list ds) => some ds
  | .d (.tuple ds) => some ds
  | _ => none
@[simp] theorem seqD_l (ds : List PyData) : seqD (.d (.list ds)) = some ds := rfl
@[simp] theorem seqD_t (ds : List PyData) : seqD (.d (.tuple ds)) = some ds := rfl
theorem seqD_ok {w : W} {ds : List PyData} (h : seqD w = some ds) : w = .d (.list ds) ∨ w = .d (.tuple ds) := by
  unfold seqD at h
  split at h
  · cases h; exact .inl rfl
  · cases h; exact .inr rfl
  · cases h
def seqI (f : EF) : IF := fun Γ M => (f Γ M).bind fun x M1 => match seqD x with
  | some ds => .ok ds M1
  | none => .bad
theorem wI_f {σ : St} {H : Hp} {Q : It → Hp → Prop} (h : wI X tg it σ H fun _ _ => False) : wI X tg it σ H Q := h.mono fun _ _ q => False.elim q
theorem si_seq {f : EF} (h : SE X it f) : SI X tg it (seqI f) := fun Γ M => by
  have q := h Γ M
  unfold seqI
  cases e1 : f Γ M with
  | bad => trivial
  | ex x M' =>
    rw [e1] at q
    exact fun F ι σ H R S A => w_i (pi_seq pe_w) ((q F ι σ H R S A).mono fun _ _ q => False.elim q)
  | ok x M1 =>
    rw [e1] at q
    rw [bind_ok]
    cases e2 : seqD x with
    | none => trivial
    | some ds => exact fun Ψ ψ => zi_seq (q.ze ⟨ds, seqD_ok e2, ψ⟩)
def rangeD (i j : Int) : List PyData := (List.range (j - i).toNat).map fun (k : Nat) => .int (i + k)
def rng1D (n : Int) (M : MS) : Res (List PyData) := if n < 2 ^ 62 ∧ -(2 ^ 62) ≤ n then .ok ((List.range n.toNat).map fun (i : Nat) => .int i) M else .bad
def rng1I (f : EF) : IF := fun Γ M => (f Γ M).bind fun x M1 => match intW x with
  | some n => rng1D n M1
  | none => .bad
theorem si_rng1 {f : EF} (hm : X.mg "range" = none) (h : SE X e f) (hg : Gl X "range" := by rfl) (hs : starEach [e] X.env = (false, eval e X.env) :: starEach [] X.env := by rfl) : SI X tg (.Call (.Name "range" p) [e] [] pos) (rng1I f) := fun Γ M => by
  have q := h Γ M
  unfold rng1I
  cases e1 : f Γ M with
  | bad => trivial
  | ex x M' =>
    rw [e1] at q
    exact fun F ι σ H R S A => w_i (pi_range1 hg hm pa_w hs) (w_a (pa_cons pe_w pa_w hs) ((q F ι σ H R S A).mono fun _ _ q => False.elim q))
  | ok x M1 =>
    rw [e1] at q
    rw [bind_ok]
    cases hx : intW x with
    | none => trivial
    | some n =>
      have hx2 := intW_ok hx
      subst hx2
      show SIr X tg _ Γ M (rng1D n M1)
      unfold rng1D
      by_cases hn : n < 2 ^ 62 ∧ -(2 ^ 62) ≤ n
      · rw [if_pos hn]
        intro Ψ ψ
        have ha : ZA X [e] Γ M fun ws M2 => ws = [.d (.int n)] ∧ M2 = M1 := za_cons (q.ze (za_nil ⟨rfl, rfl⟩)) hs
        intro F ι σ H R S
        refine w_i (pi_range1 hg hm pa_w hs) ((ha F ι σ H R S).mono ?_)
        rintro vs H1 ⟨F1, ι1, M2, ws, E1, R1, r, e3, e4⟩
        subst e3 e4
        cases r with
        | cons r1 r2 =>
          cases r2
          refine ⟨n, by rw [At.int_ r1], hn.2, hn.1, F1, ι1, M2, _, E1, R1, yld_range, ?_⟩
          simpa using ψ
      · rw [if_neg hn]; trivial
def rng2D (i j : Int) (M : MS) : Res (List PyData) := if (i < 2 ^ 62 ∧ -(2 ^ 62) ≤ i) ∧ j < 2 ^ 62 ∧ -(2 ^ 62) ≤ j then .ok (rangeD i j) M else .bad
def rng2I (f g : EF) : IF := fun Γ M => (f Γ M).bind fun x M1 => (g Γ M1).bind fun y M2 => match intW x, intW y with
  | some i, some j => rng2D i j M2
  | _, _ => .bad
theorem si_rng2 {g1 g2 : EF} (hm : X.mg "range" = none) (h1 : SE X e g1) (h2 : SE X f g2) (hg : Gl X "range" := by rfl) (hs : starEach [e, f] X.env = (false, eval e X.env) :: starEach [f] X.env := by rfl) (hs2 : starEach [f] X.env = (false, eval f X.env) :: starEach [] X.env := by rfl) : SI X tg (.Call (.Name "range" p) [e, f] [] pos) (rng2I g1 g2) := fun Γ M => by
  have q1 := h1 Γ M
  have hs' : starEach [e, f] X.env = [(false, eval e X.env), (false, eval f X.env)] := by rw [hs, hs2]; rfl
  have hs2' : starEach [f] X.env = [(false, eval f X.env)] := by rw [hs2]; rfl
  unfold rng2I
  cases e1 : g1 Γ M with
  | bad => trivial
  | ex x M' =>
    rw [e1] at q1
    exact fun F ι σ H R S A => w_i (pi_range2 hg hm pa_w hs' hs2') (w_a (pa_cons pe_w pa_w hs) ((q1 F ι σ H R S A).mono fun _ _ q => False.elim q))
  | ok x M1 =>
    rw [e1] at q1
    rw [bind_ok]
    have q2 := h2 Γ M1
    cases e2 : g2 Γ M1 with
    | bad => trivial
    | ex y M' =>
      rw [e2] at q2
      intro F ι σ H R S A
      refine w_i (pi_range2 hg hm pa_w hs' hs2') (w_a (pa_cons pe_w pa_w hs) ((q1 F ι σ H R S trivial).mono ?_))
      rintro v H1 ⟨F1, ι1, M2, w2, E, R1, r, e3, e4⟩
      subst e4
      exact w_a (pa_cons pe_w pa_w hs2) ((q2 F1 ι1 σ H1 R1 (E.slots S) (XAcc.step A E)).mono fun _ _ q => False.elim q)
    | ok y M2 =>
      rw [e2] at q2
      rw [bind_ok]
      cases hx : intW x with
      | none => trivial
      | some i =>
        cases hy : intW y with
        | none => trivial
        | some j =>
          have hx2 := intW_ok hx
          have hy2 := intW_ok hy
          subst hx2 hy2
          show SIr X tg _ Γ M (rng2D i j M2)
          unfold rng2D
          by_cases hb : (i < 2 ^ 62 ∧ -(2 ^ 62) ≤ i) ∧ j < 2 ^ 62 ∧ -(2 ^ 62) ≤ j
          · rw [if_pos hb]
            intro Ψ ψ F ι σ H R S
            refine w_i (pi_range2 hg hm pa_w hs' hs2') ((za_two (Θ := fun y z M3 => y = .d (.int i) ∧ z = .d (.int j) ∧ M3 = M2) (q1.ze (q2.ze ⟨rfl, rfl, rfl⟩)) hs hs2 F ι σ H R S).mono ?_)
            rintro vs H1 ⟨F1, ι1, M3, ws, E1, R1, rv, y, z, e3, e4, e5, e6⟩
            subst e3 e4 e5 e6
            obtain ⟨v, u, rfl, r1, r2⟩ := two_ rv
            rw [At.int_ r1, At.int_ r2]
            exact ⟨i, j, rfl, ⟨hb.1.2, hb.1.1, hb.2.2, hb.2.1⟩, F1, ι1, M3, _, E1, R1, yld_range, ψ⟩
          · rw [if_neg hb]; trivial
def zipV (x y : W) : Option (List PyData) := match x, y with
  | .d (.list xs), .d (.list ys) => some (pairsD xs ys)
  | .d (.tuple xs), .d (.tuple ys) => some (pairsD xs ys)
  | _, _ => none
def zipI (f g : EF) : IF := fun Γ M => (f Γ M).bind fun x M1 => (g Γ M1).bind fun y M2 => match zipV x y with
  | some ds => .ok ds M2
  | none => .bad
theorem si_zip {elts : List Expr} {kk : Nat} {tpos : Pos} {g1 g2 : EF} (hm : X.mg "zip" = none) (h1 : SE X e g1) (h2 : SE X f g2) (hg : Gl X "zip" := by rfl) (hs : starEach [e, f] X.env = (false, eval e X.env) :: starEach [f] X.env := by rfl) (hs2 : starEach [f] X.env = (false, eval f X.env) :: starEach [] X.env := by rfl)
    (hpl : (backTo pos (starEach [f] X.env)).any (·.1) = false := by rfl) : SI X (.Tuple elts kk tpos) (.Call (.Name "zip" p) [e, f] [] pos) (zipI g1 g2) := fun Γ M => by
  have q1 := h1 Γ M
  unfold zipI
  cases e1 : g1 Γ M with
  | bad => trivial
  | ex x M' =>
    rw [e1] at q1
    exact fun F ι σ H R S A => w_i (RZ.pi_zipA hg hm pa_w hs hpl) (w_a (pa_cons pe_w pa_w hs) ((q1 F ι σ H R S A).mono fun _ _ q => False.elim q))
  | ok x M1 =>
    rw [e1] at q1
    rw [bind_ok]
    have q2 := h2 Γ M1
    cases e2 : g2 Γ M1 with
    | bad => trivial
    | ex y M' =>
      rw [e2] at q2
      intro F ι σ H R S A
      refine w_i (RZ.pi_zipA hg hm pa_w hs hpl) (w_a (pa_cons pe_w pa_w hs) ((q1 F ι σ H R S trivial).mono ?_))
      rintro v H1 ⟨F1, ι1, M2, w2, E, R1, r, e3, e4⟩
      subst e4
      exact w_a (pa_cons pe_w pa_w hs2) ((q2 F1 ι1 σ H1 R1 (E.slots S) (XAcc.step A E)).mono fun _ _ q => False.elim q)
    | ok y M2 =>
      rw [e2] at q2
      rw [bind_ok]
      cases hz : zipV x y with
      | none => trivial
      | some ds =>
        intro Ψ ψ
        unfold zipV at hz
        split at hz
        · cases hz; exact zi_zip hm (q1.ze (q2.ze ⟨_, _, .inl ⟨rfl, rfl⟩, ψ⟩)) hg hs hs2 hpl
        · cases hz; exact zi_zip hm (q1.ze (q2.ze ⟨_, _, .inr ⟨rfl, rfl⟩, ψ⟩)) hg hs hs2 hpl
        · cases hz

/-! ### loops -/
def forL (tg : TGF) (body : SF) : List PyData → GS → MS → RS
  | [], Γ, M => .nx Γ M
  | d :: ds, Γ, M => match tg (.d d) Γ M with
    | none => .bad
    | some (Γ1, M1) => match body Γ1 M1 with
      | .nx Γ2 M2 => forL tg body ds Γ2 M2
      | .ct Γ2 M2 => forL tg body ds Γ2 M2
      | .bk Γ2 M2 => .nx Γ2 M2
      | r => r
def forS (i : IF) (tg : TGF) (body : SF) : SF := fun Γ M => match i Γ M with
  | .ok ds M1 => forL tg body ds Γ M1
  | .ex x M1 => .ex x Γ M1
  | .bad => .bad
theorem ss_for {i : IF} {g : TGF} {f : SF} (hp : PassesOwn (model X.prog X.w) X.A X.env X.xe) (hc : X.calm = true) (hi : SI X tg it i) (hg : SG X tg g) (hb : SSs X body f) (hs : ∀ x, foldedSetIterable it X.env x = pure x := by intro _; rfl) :
    SS X (.For tg it body [] pos) (forS i g f) := fun Γ M F ι σ H R S A => by
  have q := hi Γ M
  unfold forS at A ⊢
  cases e1 : i Γ M with
  | bad => rw [e1] at A; exact False.elim A
  | ex x M1 =>
    rw [e1] at A q
    exact w_s (ps_for hp hc pi_w pg_w pss_w hs) ((q F ι σ H R S (AccS.e A S)).mono fun _ _ z => False.elim z)
  | ok ds M1 =>
    rw [e1] at A q
    dsimp only at A ⊢
    refine w_s (ps_for hp hc pi_w pg_w pss_w hs) ((q (fun ds' M' => ds' = ds ∧ M' = M1) ⟨rfl, rfl⟩ F ι σ H R S).mono ?_)
    rintro J H1 ⟨F1, ι1, M2, ds', E1, R1, yd, e2, e3⟩
    subst e2 e3
    let W : Nat → St → Hp → Prop := fun i σ' H' => i ≤ ds'.length ∧ ∃ F' ι' M' Γ', Ext F ι H F' ι' H' ∧ Kp F1 H1 F' H' ∧ Rep F' H' ι' M' ∧ Slots F' ι' σ' Γ' ∧ forL g f (ds'.drop i) Γ' M' = forL g f ds' Γ M2
    refine ⟨fun i m σ' H' => m = ds'.length - i ∧ W i σ' H', ⟨ds'.length, rfl, Nat.zero_le _, F1, ι1, M2, Γ, E1, Kp.refl, R1, E1.slots S, by rw [List.drop_zero]⟩, ?_⟩
    rintro n m σ' H' ⟨rfl, hn, F2, ι2, M3, Γ3, E2, s2, R2, S2, hI⟩
    have y := yd F2 H' s2 R2.sub n
    by_cases hlt : n < ds'.length
    · have ed : ds'.drop n = ds'[n] :: ds'.drop (n + 1) := List.drop_eq_getElem_cons hlt
      rw [ed] at hI
      obtain ⟨go, stp⟩ := y.1 _ (List.getElem?_eq_getElem hlt)
      refine .inr ⟨go, W (n + 1), fun σ3 H3 w3 => ⟨ds'.length - (n + 1), by omega, rfl, w3⟩, fun x H3 hy => ?_⟩
      obtain ⟨F3, gr, ax⟩ := stp x H3 hy
      obtain ⟨E3, R3⟩ := R2.grow gr
      rw [forL] at hI
      cases eg : g (.d ds'[n]) Γ3 M3 with
      | none => rw [eg] at hI; rw [← hI] at A; exact False.elim A
      | some pr =>
        obtain ⟨Γ4, M4⟩ := pr
        rw [eg] at hI
        dsimp only at hI
        refine (hg _ Γ3 M3 Γ4 M4 eg (fun Γ5 M5 => Γ5 = Γ4 ∧ M5 = M4) ⟨rfl, rfl⟩ F3 ι2 σ' H3 x R3 (E3.slots S2) ax : wG X tg x σ' H3 _).mono ?_
        rintro σ4 H4 ⟨F4, ι4, M5, Γ5, E4, R4, S4, e4, e5⟩
        subst e4 e5
        have E14 := (E2.trans E3).trans E4
        have s4 : Kp F1 H1 F4 H4 := (s2.step E3).step E4
        have qb := hb Γ5 M5 F4 ι4 σ4 H4 R4 S4
        cases eb : f Γ5 M5 with
        | bad => rw [eb] at hI; rw [← hI] at A; exact False.elim A
        | nx Γ6 M6 =>
          rw [eb] at hI qb
          refine (qb trivial).mono ⟨?_, fun _ _ z => False.elim z, fun _ _ z => False.elim z, fun _ _ z => False.elim z⟩
          rintro σ5 H5 ⟨F5, ι5, M7, Γ7, E5, R5, S5, e6, e7⟩
          subst e6 e7
          exact ⟨hlt, F5, ι5, M7, Γ7, E14.trans E5, s4.step E5, R5, S5, hI⟩
        | ct Γ6 M6 =>
          rw [eb] at hI qb
          refine (qb trivial).mono ⟨fun _ _ z => False.elim z, fun _ _ z => False.elim z, fun _ _ z => False.elim z, ?_⟩
          rintro σ5 H5 ⟨F5, ι5, M7, Γ7, E5, R5, S5, e6, e7⟩
          subst e6 e7
          exact ⟨hlt, F5, ι5, M7, Γ7, E14.trans E5, s4.step E5, R5, S5, hI⟩
        | bk Γ6 M6 =>
          rw [eb] at hI qb
          dsimp only at hI
          rw [← hI]
          exact (qb trivial).mono ⟨fun _ _ z => False.elim z, fun _ _ z => False.elim z, fun _ _ z => PostG.ext (Φ := fun Γ'' M'' => Γ'' = Γ6 ∧ M'' = M6) E14 z, fun _ _ z => False.elim z⟩
        | rt w M6 =>
          rw [eb] at hI qb
          dsimp only at hI
          rw [← hI]
          exact (qb trivial).mono ⟨fun _ _ z => False.elim z, fun _ _ z => Post.ext (Φ := fun w' M'' => w' = w ∧ M'' = M6) E14 z, fun _ _ z => False.elim z, fun _ _ z => False.elim z⟩
        | ex x' Γ6 M6 =>
          rw [eb] at hI qb
          dsimp only at hI
          rw [← hI] at A
          exact (qb (A.step E14)).mono ⟨fun _ _ z => False.elim z, fun _ _ z => False.elim z, fun _ _ z => False.elim z, fun _ _ z => False.elim z⟩
    · have e : n = ds'.length := by omega
      subst e
      rw [List.drop_length, forL] at hI
      rw [← hI]
      exact .inl ⟨y.2 (Nat.le_refl _), F2, ι2, M3, Γ3, E2, R2, S2, rfl, rfl⟩
end
end Z

/-! S7: comprehensions. -/
namespace Z
open PySem PySem.Spec PyProof.Rows L2
/-- a test that is not there -/
def yesT : TF := fun _ M => .ok true M
def lcL (tg : TGF) (t : TF) (f : EF) (Γ0 : GS) : List PyData → MS → Res (List W)
  | [], M => .ok [] M
  | d :: ds, M => match tg (.d d) Γ0 M with
    | none => .bad
    | some (Γ1, M1) => match t Γ1 M1 with
      | .ok true M2 => (match f Γ1 M2 with
        | .ok w M3 => (lcL tg t f Γ0 ds M3).bind fun ws M4 => .ok (w :: ws) M4
        | _ => .bad)
      | .ok false M2 => lcL tg t f Γ0 ds M2
      | _ => .bad
def dcL (tg : TGF) (t : TF) (fk fv : EF) (Γ0 : GS) : List PyData → List (Key × W) → MS → Res (List (Key × W))
  | [], acc, M => .ok acc M
  | d :: ds, acc, M => match tg (.d d) Γ0 M with
    | none => .bad
    | some (Γ1, M1) => match t Γ1 M1 with
      | .ok true M2 => (match fk Γ1 M2 with
        | .ok k M3 => (match fv Γ1 M3 with
          | .ok w M4 => (match (datW k).bind keyOf with
            | some q => dcL tg t fk fv Γ0 ds (putW acc q w) M4
            | none => .bad)
          | _ => .bad)
        | _ => .bad)
      | .ok false M2 => dcL tg t fk fv Γ0 ds acc M2
      | _ => .bad
theorem lcL_ne {tg : TGF} {t : TF} {f : EF} {Γ0 : GS} : ∀ {ds : List PyData} (M : MS) (x : Exc) (M' : MS), lcL tg t f Γ0 ds M ≠ .ex x M'
  | [], M, x, M', h => by cases h
  | d :: ds, M, x, M', h => by
    rw [lcL] at h
    split at h
    · cases h
    · split at h
      · split at h
        · rename_i w M3 _
          cases e : lcL tg t f Γ0 ds M3 with
          | bad => rw [e] at h; cases h
          | ex y M5 => exact lcL_ne M3 y M5 e
          | ok ws M5 => rw [e] at h; cases h
        · cases h
      · exact lcL_ne _ x M' h
      · cases h
theorem dcL_ne {tg : TGF} {t : TF} {fk fv : EF} {Γ0 : GS} : ∀ {ds : List PyData} (acc : List (Key × W)) (M : MS) (x : Exc) (M' : MS), dcL tg t fk fv Γ0 ds acc M ≠ .ex x M'
  | [], acc, M, x, M', h => by cases h
  | d :: ds, acc, M, x, M', h => by
    rw [dcL] at h
    split at h
    · cases h
    · split at h
      · split at h
        · split at h
          · split at h
            · exact dcL_ne _ _ x M' h
            · cases h
          · cases h
        · cases h
      · exact dcL_ne _ _ x M' h
      · cases h
/-- targets and tests within a block -/
def SGB (X : Cx) (vs : List Nat) (tg : Expr) (g : TGF) : Prop := ∀ w Γ M Γ' M', g w Γ M = some (Γ', M') → ∀ Φ : GS → MS → Prop, Φ Γ' M' → ZGB X vs tg w Γ M Φ
def SGBs (X : Cx) (vs : List Nat) (ts : List Expr) (g : TGFs) : Prop := ∀ ws Γ M Γ' M', g ws Γ M = some (Γ', M') → ∀ Φ : GS → MS → Prop, Φ Γ' M' → ZGBs X vs ts ws Γ M Φ
def STs (X : Cx) (ifs : List Expr) (f : TF) : Prop := ∀ Γ M b M', f Γ M = .ok b M' → ∀ Ψ : Bool → MS → Prop, Ψ b M' → ZTs X ifs Γ M Ψ
section
variable {X : Cx} {e a b c o f tg it elt kx vx : Expr} {es ifs : List Expr} {scope : Scope} {pos p spos : Pos} {Γ : GS} {M : MS} {k : Nat} {vs : List Nat}
theorem sgb_nm (i : Nat) {x : Str} (hN : X.N.Nodup) (hi : X.N[i]? = some x := by rfl) (hx : Loc X.env.scope x := by first | exact Or.inl rfl | exact Or.inr rfl) (hm : i ∈ vs := by decide)
    (hf : X.fn x = true ∨ X.env.scope.names.lookup x = some .local := by first | exact .inl rfl | exact .inr rfl) : SGB X vs (.Name x pos) (nmG i) := fun w Γ M Γ' M' h Φ φ => by
  cases h
  exact zgb_name i φ hN hi hx hm hf
theorem sgbs_nil : SGBs X vs [] nilG := fun ws Γ M Γ' M' h Φ φ => by
  cases ws with
  | nil => cases h; exact zgbs_nil φ
  | cons _ _ => cases h
theorem sgbs_cons {t : Expr} {ts : List Expr} {g : TGF} {h : TGFs} (h1 : SGB X vs t g) (h2 : SGBs X vs ts h) (hs : (assignEach (t :: ts) X.env).map (·.2) = assign t X.env :: (assignEach ts X.env).map (·.2) := by rfl) : SGBs X vs (t :: ts) (consG g h) := fun ws Γ M Γ' M' e Φ φ => by
  cases ws with
  | nil => cases e
  | cons w ws =>
    change (g w Γ M).bind _ = _ at e
    cases q : g w Γ M with
    | none => rw [q] at e; cases e
    | some p =>
      rw [q] at e
      obtain ⟨Γ1, M1⟩ := p
      intro F ι σ H us R S r
      cases r with
      | cons r1 r2 =>
        rename_i v us
        refine ⟨_, pgs_cons pg_w pgs_w hs, v, us, rfl, (h1 w Γ M Γ1 M1 q (fun Γ2 M2 => Γ2 = Γ1 ∧ M2 = M1) ⟨rfl, rfl⟩ F ι σ H v R S r1 : wG X t v σ H _).mono ?_⟩
        rintro σ2 H2 ⟨hw, F2, ι2, M2, Γ2, E2, R2, S2, e1, e2⟩
        subst e1 e2
        obtain ⟨t, p, q2⟩ := h2 ws Γ2 M2 Γ' M' e Φ φ F2 ι2 σ2 H2 us R2 S2 (E2.rws r2)
        exact (w_gs p q2).mono fun _ _ z => ⟨z.1.trans hw, PostG.ext E2 z.2⟩
theorem sgb_tup {n : Nat} {g : TGFs} {q : Nat} (hc : X.calm = true) (h : SGBs X vs es g) (hn : (assignEach es X.env).length = n := by rfl) (hst : (assignEach es X.env).findIdx? (·.1) = none := by rfl) : SGB X vs (.Tuple es q pos) (tupG n g) := fun w Γ M Γ' M' e Φ φ => by
  unfold tupG at e
  split at e
  · split at e
    · exact zgb_tup hc (h _ Γ M Γ' M' e Φ φ) (by assumption) hn hst
    · cases e
  · cases e
theorem sts_nil : STs X [] yesT := fun Γ M b M' h Ψ ψ => by
  cases h
  exact zts_nil ψ
theorem sts_one {t : TF} (h : ST X c t) : STs X [c] t := fun Γ M b M' e Ψ ψ => by
  have q := h Γ M
  rw [e] at q
  exact zts_one (q.ze ψ)
theorem lcT_of {g : TGF} {t : TF} {f : EF} (hg : ∀ B, SGB (bk X scope B) vs tg g) (ht : ∀ B, STs (bk X scope B) ifs t) (hf : ∀ B, SE (bk X scope B) elt f) {ds : List PyData} {M1 M2 : MS} {ws : List W} {Φ : List W → MS → Prop}
    (h : lcL g t f (wipeG Γ vs) ds M1 = .ok ws M2) (hl : ds.length < sizeLine) (φ : Φ ws M2) : ∃ I, LcT X vs tg elt ifs scope ds Γ M1 I Φ := by
  refine ⟨fun i acc M' => acc.length ≤ i ∧ ∃ ws', lcL g t f (wipeG Γ vs) (ds.drop i) M' = .ok ws' M2 ∧ acc ++ ws' = ws, ⟨⟨Nat.le_refl _, ws, by rw [List.drop_zero]; exact h, rfl⟩, fun i d acc M' hd hI B => ?_, fun acc M' hI => ?_⟩⟩
  · obtain ⟨ha, ws', hw, he⟩ := hI
    have hi : i < ds.length := (List.getElem?_eq_some_iff.mp hd).1
    have ed : ds.drop i = d :: ds.drop (i + 1) := by
      rw [List.drop_eq_getElem_cons hi]
      congr 1
      exact (List.getElem?_eq_some_iff.mp hd).2
    rw [ed, lcL] at hw
    cases eg : g (.d d) (wipeG Γ vs) M' with
    | none => rw [eg] at hw; cases hw
    | some pr =>
      obtain ⟨Γ1, M3⟩ := pr
      rw [eg] at hw
      dsimp only at hw
      refine hg B _ _ _ _ _ eg _ ?_
      intro B
      cases et : t Γ1 M3 with
      | bad => rw [et] at hw; cases hw
      | ex _ _ => rw [et] at hw; cases hw
      | ok bb M4 =>
        rw [et] at hw
        refine ht B Γ1 M3 bb M4 et _ ?_
        cases bb with
        | false =>
          dsimp only at hw
          rw [if_neg Bool.false_ne_true]
          exact ⟨Nat.le_succ_of_le ha, ws', hw, he⟩
        | true =>
          dsimp only at hw
          rw [if_pos rfl]
          intro B
          have q := hf B Γ1 M4
          cases ef : f Γ1 M4 with
          | bad => rw [ef] at hw; cases hw
          | ex _ _ => rw [ef] at hw; cases hw
          | ok w M5 =>
            rw [ef] at hw q
            dsimp only at hw
            refine q.ze ?_
            cases er : lcL g t f (wipeG Γ vs) (ds.drop (i + 1)) M5 with
            | bad => rw [er] at hw; cases hw
            | ex _ _ => rw [er] at hw; cases hw
            | ok ws2 M6 =>
              rw [er] at hw
              cases hw
              exact ⟨Nat.lt_of_le_of_lt (Nat.le_trans ha (Nat.le_of_lt hi)) hl, by rw [List.length_append]; show acc.length + 1 ≤ i + 1; omega, ws2, rfl, by rw [List.append_assoc]; exact he⟩
  · obtain ⟨ha, ws', hw, he⟩ := hI
    rw [List.drop_length, lcL] at hw
    cases hw
    rw [List.append_nil] at he
    rw [he]; exact φ
/-- what is made of the items: data where all are data -/
def mkL (ws : List W) (M : MS) : Option (W × MS) := match datsW ws with
  | some ds => some (.d (.list ds), M)
  | none => some (.m M.length, M ++ [.lst ws])
def mkLM (ws : List W) (M : MS) : Option (W × MS) := some (.m M.length, M ++ [.lst ws])
@[simp] theorem mkL_map (ds : List PyData) (M : MS) : mkL (ds.map .d) M = some (.d (.list ds), M) := by unfold mkL; rw [datsW_map]
def lcR (mk : List W → MS → Option (W × MS)) (tg : TGF) (t : TF) (f : EF) (vs : List Nat) (Γ : GS) (ds : List PyData) (M : MS) : Res W :=
  if ds.length < sizeLine then (lcL tg t f (wipeG Γ vs) ds M).bind fun ws M2 => Res.of (mk ws M2) else .bad
def lcE (mk : List W → MS → Option (W × MS)) (vs : List Nat) (i : IF) (tg : TGF) (t : TF) (f : EF) : EF := fun Γ M => (i Γ M).bind fun ds M1 => lcR mk tg t f vs Γ ds M1
theorem lc_ex {own : List (Str × Nat)} {σ : St} {H : Hp} {Q : VK} (hc : X.calm = true) (hN : X.N.Nodup) (ok : BlkOk X.N X.env.scope scope own) (hs : ∀ x, foldedSetIterable it X.env x = pure x) (h : wI X tg it σ H fun _ _ => False) :
    wE X (.ListComp elt [⟨tg, it, ifs, 0⟩] scope pos) σ H Q := w_e (pe_lc (ifs := ifs) (elt := elt) hc hN pi_w ok (pg_b (tg := tg)) pts_b pe_b hs) (h.mono fun _ _ z => False.elim z)
theorem se_lc {own : List (Str × Nat)} {i : IF} {g : TGF} {t : TF} {f : EF} (hc : X.calm = true) (hN : X.N.Nodup) (ok : BlkOk X.N X.env.scope scope own) (hi : SI X tg it i) (hg : ∀ B, SGB (bk X scope B) (own.map (·.2)) tg g) (ht : ∀ B, STs (bk X scope B) ifs t) (hf : ∀ B, SE (bk X scope B) elt f)
    (hs : ∀ x, foldedSetIterable it X.env x = pure x := by intro _; rfl) : SE X (.ListComp elt [⟨tg, it, ifs, 0⟩] scope pos) (lcE mkL (own.map (·.2)) i g t f) := fun Γ M => by
  have q := hi Γ M
  unfold lcE
  cases e1 : i Γ M with
  | bad => exact .bad
  | ex x M' => rw [e1] at q; exact fun F ι σ H R S A => lc_ex hc hN ok hs (q F ι σ H R S A)
  | ok ds M1 =>
    rw [e1] at q
    rw [bind_ok]
    unfold lcR
    by_cases hl : ds.length < sizeLine
    · rw [if_pos hl]
      cases e2 : lcL g t f (wipeG Γ (own.map (·.2))) ds M1 with
      | bad => exact .bad
      | ex _ _ => exact absurd e2 (lcL_ne _ _ _)
      | ok ws M2 =>
        rw [bind_ok]
        unfold mkL
        cases ed : datsW ws with
        | some ys => exact .of (ze_lc hc hN ok (q _ (lcT_of hg ht hf e2 hl ⟨ys, datsW_ok ed, rfl, rfl⟩)) hs)
        | none => exact .of (ze_lcM hc hN ok (q _ (lcT_of hg ht hf e2 hl ⟨rfl, rfl⟩)) hs)
    · rw [if_neg hl]; exact .bad
theorem se_lcM {own : List (Str × Nat)} {i : IF} {g : TGF} {t : TF} {f : EF} (hc : X.calm = true) (hN : X.N.Nodup) (ok : BlkOk X.N X.env.scope scope own) (hi : SI X tg it i) (hg : ∀ B, SGB (bk X scope B) (own.map (·.2)) tg g) (ht : ∀ B, STs (bk X scope B) ifs t) (hf : ∀ B, SE (bk X scope B) elt f)
    (hs : ∀ x, foldedSetIterable it X.env x = pure x := by intro _; rfl) : SE X (.ListComp elt [⟨tg, it, ifs, 0⟩] scope pos) (lcE mkLM (own.map (·.2)) i g t f) := fun Γ M => by
  have q := hi Γ M
  unfold lcE
  cases e1 : i Γ M with
  | bad => exact .bad
  | ex x M' => rw [e1] at q; exact fun F ι σ H R S A => lc_ex hc hN ok hs (q F ι σ H R S A)
  | ok ds M1 =>
    rw [e1] at q
    rw [bind_ok]
    unfold lcR
    by_cases hl : ds.length < sizeLine
    · rw [if_pos hl]
      cases e2 : lcL g t f (wipeG Γ (own.map (·.2))) ds M1 with
      | bad => exact .bad
      | ex _ _ => exact absurd e2 (lcL_ne _ _ _)
      | ok ws M2 => exact .of (ze_lcM hc hN ok (q _ (lcT_of hg ht hf e2 hl ⟨rfl, rfl⟩)) hs)
    · rw [if_neg hl]; exact .bad
/-- y = [..], y a plain local -/
theorem zs_setLcM (i : Nat) {y : Str} {py spos : Pos} {own : List (Str × Nat)} {D : ZD} (hc : X.calm = true) (hN : X.N.Nodup) (ok : BlkOk X.N X.env.scope scope own)
    (h : ZI X tg it Γ M fun ds M1 => ∃ I, LcT X (own.map (·.2)) tg elt ifs scope ds Γ M1 I fun acc M2 => D.nx (Γ.set i (some (.m M2.length))) (M2 ++ [.lst acc]))
    (hsw : swapsWith (.ListComp elt [⟨tg, it, ifs, 0⟩] scope pos) (some (.Name y py)) spos.line X.env = pure true) (hy : X.N[i]? = some y := by rfl) (hyl : X.env.scope.names.lookup y = some .local := by rfl) (hs : ∀ x, foldedSetIterable it X.env x = pure x := by intro _; rfl) :
    ZS X (.Assign [.Name y py] (.ListComp elt [⟨tg, it, ifs, 0⟩] scope pos) spos) Γ M D := fun F ι σ H R S => by
  refine w_s (ps_setLc hc hN hy hyl hsw pi_w ok pg_b pts_b pe_b hs) (lc_read S R h ?_)
  rintro L H' F' ι' M' acc us E R' hL ha nF nι nH φ
  obtain ⟨E2, R2⟩ := out_cell (mo := .lst acc) E R' hL nF nι nH ⟨us, rfl, ha⟩
  exact ⟨_, _, _, _, E2, R2, (E2.slots S).set i (RW.m (by rw [← R'.len, List.getElem?_append_right (Nat.le_refl _)]; simp)), φ⟩
theorem ss_setLc (i : Nat) {y : Str} {py : Pos} {own : List (Str × Nat)} {ii : IF} {g : TGF} {t : TF} {f : EF} (hc : X.calm = true) (hN : X.N.Nodup) (ok : BlkOk X.N X.env.scope scope own) (hi : SI X tg it ii) (hg : ∀ B, SGB (bk X scope B) (own.map (·.2)) tg g) (ht : ∀ B, STs (bk X scope B) ifs t) (hf : ∀ B, SE (bk X scope B) elt f)
    (hsw : swapsWith (.ListComp elt [⟨tg, it, ifs, 0⟩] scope pos) (some (.Name y py)) spos.line X.env = pure true) (hy : X.N[i]? = some y := by rfl) (hyl : X.env.scope.names.lookup y = some .local := by rfl) (hs : ∀ x, foldedSetIterable it X.env x = pure x := by intro _; rfl) :
    SS X (.Assign [.Name y py] (.ListComp elt [⟨tg, it, ifs, 0⟩] scope pos) spos) (setS i (lcE mkL (own.map (·.2)) ii g t f)) := fun Γ M => by
  have q := hi Γ M
  unfold setS lcE
  cases e1 : ii Γ M with
  | bad => exact .bad
  | ex x M' =>
    rw [e1] at q
    exact fun F ι σ H R S A => w_s (ps_setLc (ifs := ifs) (elt := elt) hc hN hy hyl hsw pi_w ok (pg_b (tg := tg)) pts_b pe_b hs) ((q F ι σ H R S (AccS.e A S)).mono fun _ _ z => False.elim z)
  | ok ds M1 =>
    rw [e1] at q
    rw [bind_ok]
    unfold lcR
    by_cases hl : ds.length < sizeLine
    · rw [if_pos hl]
      cases e2 : lcL g t f (wipeG Γ (own.map (·.2))) ds M1 with
      | bad => exact .bad
      | ex _ _ => exact absurd e2 (lcL_ne _ _ _)
      | ok ws M2 =>
        rw [bind_ok]
        unfold mkL
        cases ed : datsW ws with
        | some ys => exact .of (zs_setLc i hc hN ok (q _ (lcT_of hg ht hf e2 hl ⟨ys, datsW_ok ed, rfl⟩)) hsw hy hyl hs)
        | none => exact .of (zs_setLcM i hc hN ok (q _ (lcT_of hg ht hf e2 hl rfl)) hsw hy hyl hs)
    · rw [if_neg hl]; exact .bad
theorem ss_setLcM (i : Nat) {y : Str} {py : Pos} {own : List (Str × Nat)} {ii : IF} {g : TGF} {t : TF} {f : EF} (hc : X.calm = true) (hN : X.N.Nodup) (ok : BlkOk X.N X.env.scope scope own) (hi : SI X tg it ii) (hg : ∀ B, SGB (bk X scope B) (own.map (·.2)) tg g) (ht : ∀ B, STs (bk X scope B) ifs t) (hf : ∀ B, SE (bk X scope B) elt f)
    (hsw : swapsWith (.ListComp elt [⟨tg, it, ifs, 0⟩] scope pos) (some (.Name y py)) spos.line X.env = pure true) (hy : X.N[i]? = some y := by rfl) (hyl : X.env.scope.names.lookup y = some .local := by rfl) (hs : ∀ x, foldedSetIterable it X.env x = pure x := by intro _; rfl) :
    SS X (.Assign [.Name y py] (.ListComp elt [⟨tg, it, ifs, 0⟩] scope pos) spos) (setS i (lcE mkLM (own.map (·.2)) ii g t f)) := fun Γ M => by
  have q := hi Γ M
  unfold setS lcE
  cases e1 : ii Γ M with
  | bad => exact .bad
  | ex x M' =>
    rw [e1] at q
    exact fun F ι σ H R S A => w_s (ps_setLc (ifs := ifs) (elt := elt) hc hN hy hyl hsw pi_w ok (pg_b (tg := tg)) pts_b pe_b hs) ((q F ι σ H R S (AccS.e A S)).mono fun _ _ z => False.elim z)
  | ok ds M1 =>
    rw [e1] at q
    rw [bind_ok]
    unfold lcR
    by_cases hl : ds.length < sizeLine
    · rw [if_pos hl]
      cases e2 : lcL g t f (wipeG Γ (own.map (·.2))) ds M1 with
      | bad => exact .bad
      | ex _ _ => exact absurd e2 (lcL_ne _ _ _)
      | ok ws M2 => exact .of (zs_setLcM i hc hN ok (q _ (lcT_of hg ht hf e2 hl rfl)) hsw hy hyl hs)
    · rw [if_neg hl]; exact .bad

/-! ### dict comprehensions -/
theorem dcT_of {g : TGF} {t : TF} {fk fv : EF} (hg : ∀ B, SGB (bk X scope B) vs tg g) (ht : ∀ B, STs (bk X scope B) ifs t) (hk : ∀ B, SE (bk X scope B) kx fk) (hv : ∀ B, SE (bk X scope B) vx fv) {ds : List PyData} {M1 M2 : MS} {ws : List (Key × W)} {Φ : List (Key × W) → MS → Prop}
    (h : dcL g t fk fv (wipeG Γ vs) ds [] M1 = .ok ws M2) (hl : ds.length < sizeLine) (φ : Φ ws M2) : ∃ I, DcT X vs tg kx vx ifs scope ds Γ M1 I Φ := by
  refine ⟨fun i acc M' => acc.length ≤ i ∧ dcL g t fk fv (wipeG Γ vs) (ds.drop i) acc M' = .ok ws M2, ⟨⟨Nat.le_refl _, by rw [List.drop_zero]; exact h⟩, fun i d acc M' hd hI B => ?_, fun acc M' hI => ?_⟩⟩
  · obtain ⟨ha, hw⟩ := hI
    have hi : i < ds.length := (List.getElem?_eq_some_iff.mp hd).1
    have ed : ds.drop i = d :: ds.drop (i + 1) := by
      rw [List.drop_eq_getElem_cons hi]
      congr 1
      exact (List.getElem?_eq_some_iff.mp hd).2
    rw [ed, dcL] at hw
    cases eg : g (.d d) (wipeG Γ vs) M' with
    | none => rw [eg] at hw; cases hw
    | some pr =>
      obtain ⟨Γ1, M3⟩ := pr
      rw [eg] at hw
      dsimp only at hw
      refine hg B _ _ _ _ _ eg _ ?_
      intro B
      cases et : t Γ1 M3 with
      | bad => rw [et] at hw; cases hw
      | ex _ _ => rw [et] at hw; cases hw
      | ok bb M4 =>
        rw [et] at hw
        refine ht B Γ1 M3 bb M4 et _ ?_
        cases bb with
        | false =>
          dsimp only at hw
          rw [if_neg Bool.false_ne_true]
          exact ⟨Nat.le_succ_of_le ha, hw⟩
        | true =>
          dsimp only at hw
          rw [if_pos rfl]
          intro B
          have q := hk B Γ1 M4
          cases ef : fk Γ1 M4 with
          | bad => rw [ef] at hw; cases hw
          | ex _ _ => rw [ef] at hw; cases hw
          | ok y M5 =>
            rw [ef] at hw q
            dsimp only at hw
            refine q.ze ?_
            intro B
            have q2 := hv B Γ1 M5
            cases er : fv Γ1 M5 with
            | bad => rw [er] at hw; cases hw
            | ex _ _ => rw [er] at hw; cases hw
            | ok w M6 =>
              rw [er] at hw q2
              dsimp only at hw
              refine q2.ze ?_
              cases y with
              | m j => cases hw
              | d y =>
                have ey : (datW (.d y)).bind keyOf = keyOf y := rfl
                rw [ey] at hw
                cases hq : keyOf y with
                | none => rw [hq] at hw; cases hw
                | some q =>
                  rw [hq] at hw
                  dsimp only at hw
                  refine ⟨q, by rw [keyOf_ok hq], Nat.lt_of_le_of_lt (Nat.le_trans ha (Nat.le_of_lt hi)) hl, ?_, hw⟩
                  unfold putW
                  split
                  · rw [List.length_map]; omega
                  · rw [List.length_append]; show acc.length + 1 ≤ i + 1; omega
  · obtain ⟨ha, hw⟩ := hI
    rw [List.drop_length, dcL] at hw
    cases hw
    exact φ
def mkD (ks : List (Key × W)) (M : MS) : Option (W × MS) := match datKs ks with
  | some r => some (.d (dictK r), M)
  | none => some (.m M.length, M ++ [.dic ks])
def mkDM (ks : List (Key × W)) (M : MS) : Option (W × MS) := some (.m M.length, M ++ [.dic ks])
@[simp] theorem mkD_map (r : List (Key × PyData)) (M : MS) : mkD (r.map fun q => (q.1, .d q.2)) M = some (.d (dictK r), M) := by unfold mkD; rw [datKs_map]
def dcR (mk : List (Key × W) → MS → Option (W × MS)) (tg : TGF) (t : TF) (fk fv : EF) (vs : List Nat) (Γ : GS) (ds : List PyData) (M : MS) : Res W :=
  if ds.length < sizeLine then (dcL tg t fk fv (wipeG Γ vs) ds [] M).bind fun ws M2 => Res.of (mk ws M2) else .bad
def dcE (mk : List (Key × W) → MS → Option (W × MS)) (vs : List Nat) (i : IF) (tg : TGF) (t : TF) (fk fv : EF) : EF := fun Γ M => (i Γ M).bind fun ds M1 => dcR mk tg t fk fv vs Γ ds M1
theorem dc_ex {own : List (Str × Nat)} {σ : St} {H : Hp} {Q : VK} (hc : X.calm = true) (hN : X.N.Nodup) (ok : BlkOk X.N X.env.scope scope own) (hs : ∀ x, foldedSetIterable it X.env x = pure x) (h : wI X tg it σ H fun _ _ => False) :
    wE X (.DictComp kx vx [⟨tg, it, ifs, 0⟩] scope pos) σ H Q := w_e (pe_dc (ifs := ifs) (kx := kx) (vx := vx) hc hN pi_w ok (pg_b (tg := tg)) pts_b pe_b pe_b hs) (h.mono fun _ _ z => False.elim z)
theorem se_dc {own : List (Str × Nat)} {i : IF} {g : TGF} {t : TF} {fk fv : EF} (hc : X.calm = true) (hN : X.N.Nodup) (ok : BlkOk X.N X.env.scope scope own) (hi : SI X tg it i) (hg : ∀ B, SGB (bk X scope B) (own.map (·.2)) tg g) (ht : ∀ B, STs (bk X scope B) ifs t) (hk : ∀ B, SE (bk X scope B) kx fk) (hv : ∀ B, SE (bk X scope B) vx fv)
    (hs : ∀ x, foldedSetIterable it X.env x = pure x := by intro _; rfl) : SE X (.DictComp kx vx [⟨tg, it, ifs, 0⟩] scope pos) (dcE mkD (own.map (·.2)) i g t fk fv) := fun Γ M => by
  have q := hi Γ M
  unfold dcE
  cases e1 : i Γ M with
  | bad => exact .bad
  | ex x M' => rw [e1] at q; exact fun F ι σ H R S A => dc_ex hc hN ok hs (q F ι σ H R S A)
  | ok ds M1 =>
    rw [e1] at q
    rw [bind_ok]
    unfold dcR
    by_cases hl : ds.length < sizeLine
    · rw [if_pos hl]
      cases e2 : dcL g t fk fv (wipeG Γ (own.map (·.2))) ds [] M1 with
      | bad => exact .bad
      | ex _ _ => exact absurd e2 (dcL_ne _ _ _ _)
      | ok ws M2 =>
        rw [bind_ok]
        unfold mkD
        cases ed : datKs ws with
        | some ys => exact .of (ze_dc hc hN ok (q _ (dcT_of hg ht hk hv e2 hl ⟨ys, datKs_ok ed, rfl, rfl⟩)) hs)
        | none => exact .of (ze_dcM hc hN ok (q _ (dcT_of hg ht hk hv e2 hl ⟨rfl, rfl⟩)) hs)
    · rw [if_neg hl]; exact .bad
theorem se_dcM {own : List (Str × Nat)} {i : IF} {g : TGF} {t : TF} {fk fv : EF} (hc : X.calm = true) (hN : X.N.Nodup) (ok : BlkOk X.N X.env.scope scope own) (hi : SI X tg it i) (hg : ∀ B, SGB (bk X scope B) (own.map (·.2)) tg g) (ht : ∀ B, STs (bk X scope B) ifs t) (hk : ∀ B, SE (bk X scope B) kx fk) (hv : ∀ B, SE (bk X scope B) vx fv)
    (hs : ∀ x, foldedSetIterable it X.env x = pure x := by intro _; rfl) : SE X (.DictComp kx vx [⟨tg, it, ifs, 0⟩] scope pos) (dcE mkDM (own.map (·.2)) i g t fk fv) := fun Γ M => by
  have q := hi Γ M
  unfold dcE
  cases e1 : i Γ M with
  | bad => exact .bad
  | ex x M' => rw [e1] at q; exact fun F ι σ H R S A => dc_ex hc hN ok hs (q F ι σ H R S A)
  | ok ds M1 =>
    rw [e1] at q
    rw [bind_ok]
    unfold dcR
    by_cases hl : ds.length < sizeLine
    · rw [if_pos hl]
      cases e2 : dcL g t fk fv (wipeG Γ (own.map (·.2))) ds [] M1 with
      | bad => exact .bad
      | ex _ _ => exact absurd e2 (dcL_ne _ _ _ _)
      | ok ws M2 => exact .of (ze_dcM hc hN ok (q _ (dcT_of hg ht hk hv e2 hl ⟨rfl, rfl⟩)) hs)
    · rw [if_neg hl]; exact .bad
end
end Z

/-! S8: defs as functions, their calls. -/
namespace Z
open PySem PySem.Spec PyProof.Rows L2
abbrev FF := List W → MS → Res W
/-- the ends of a call that the function tells -/
def zspF (T : Top) (n : Nat) (G : FF) : Sp := fun vs H Q E => vs.length = n ∧ ∃ F ι M ws, Rep F H ι M ∧ RWs F ι vs ws ∧ match G ws M with
  | .ok w M' => ∀ v H', Post F ι H (fun w' M'' => w' = w ∧ M'' = M') v H' → Q v H'
  | .ex x M' => ∀ F' ι' H' cls d, Ext F ι H F' ι' H' → Rep F' H' ι' M' → ExcM T.mg F' x cls d → E cls d H'
  | .bad => False
/-- the def x of the text does what the function G says -/
def Fs (T : Top) (k : Nat) (x : Str) (ps : List Str) (G : FF) : Prop :=
  ∃ f fd, T.mg x = some (.ref f) ∧ PySem.W.keepIn T.K (.ref f) = true ∧ Binds T.K fd ps [] ∧ FnG T (L2.CX T.P T.w) k f fd ps (zspF T ps.length G)
theorem Fs.mono {T : Top} {j k : Nat} {x : Str} {ps : List Str} {G : FF} (h : Fs T j x ps G) (l : j ≤ k) : Fs T k x ps G :=
  let ⟨f, fd, a, b, c, d⟩ := h; ⟨f, fd, a, b, c, d.mono l⟩
def callE (G : FF) (f : AF) : EF := fun Γ M => (f Γ M).bind fun ws M1 => G ws M1
section
variable {T : Top} {X : Cx} {x : Str} {ps : List Str} {G : FF} {k : Nat} {e : Expr} {es : List Expr} {p pos : Pos} {Γ : GS} {M : MS}
theorem se_call (C : Fs T k x ps G) (o : On T X) (hr : RoomZ k X.A) {g : AF} (ha : SA X (e :: es) g) (hn : (e :: es).length = ps.length) (hla : ∀ Γ M ws M1, g Γ M = .ok ws M1 → ws.length = ps.length) (hg : Gl X x := by rfl) (hdb : (x == ("__debug__" : Str)) = false := by decide)
    (he : starEach (e :: es) X.env = (false, eval e X.env) :: starEach es X.env := by exact star_of rfl) (hpl : (backTo pos (starEach es X.env)).any (·.1) = false := by rfl) :
    SE X (.Call (.Name x p) (e :: es) [] pos) (callE G g) := fun Γ M F ι σ H R Sl A pins s I => by
  have q := ha Γ M
  obtain ⟨f, fd, hm, hk, hb, GG⟩ := C
  obtain ⟨oP, ow, oK, omg, ob⟩ := o
  unfold callE at A ⊢
  refine wpAny_Call_Name_kw (ld_glob I hg (by rw [omg]; exact hm) ?_ hdb)
  refine PySem.W.callWith_K (h₀ := X.base) I.ok.mod.kin (by rw [oK]; exact hk) ?_ he hpl
  cases e1 : g Γ M with
  | bad => rw [e1] at A; exact False.elim A
  | ex y M' =>
    rw [e1] at A q
    exact thn (q F ι σ H R Sl A pos pins s I) fun us s1 ⟨vs, H1, I1, r, z⟩ => False.elim z
  | ok ws M1 =>
    rw [e1] at A q
    rw [bind_ok] at A ⊢
    refine thn (q F ι σ H R Sl trivial pos pins s I) ?_
    rintro us s1 ⟨vs, H1, I1, r, F1, ι1, M2, ws', E1, R1, rw', e2, e3⟩
    subst e2 e3
    refine ⟨I1.kIn, wpAny_call ?_⟩
    have e0 := I1.env0
    have hv : vs.length = ps.length := by rw [rw'.len]; exact hla _ _ _ _ e1
    have hu : us.length = ps.length := by rw [← r.length]; exact hv
    have kin : T.K.In s1.heap := by rw [← oK]; exact I1.kIn
    have hb' := hb s1 us kin (by simpa using hu)
    rw [List.append_nil] at hb'
    rw [oP, ow] at e0 ⊢
    rw [oK, omg, ob] at e0
    have A1 := A.step E1
    cases e4 : G ws' M2 with
    | bad => rw [e4] at A1; exact False.elim A1
    | ok w M' =>
      rw [e4] at A1
      refine codeAny_mono (GG.run X.A X.stack s1 H1 ⟨us, []⟩ us vs (PR F ι H (.ok w M')) E0 hr e0 hb' r ⟨hv, F1, ι1, M2, ws', R1, rw', ?_⟩) fun r s' hq => ?_
      · rw [e4]
        exact fun v H' q => Post.ext (Φ := fun w' M'' => w' = w ∧ M'' = M') E1 q
      · cases r with
        | error e =>
          obtain ⟨_, _, _, _, _, _, _, _, _, _, _, _, z⟩ := hq
          exact False.elim z
        | ok fl =>
          cases fl with
          | ret u => exact I1.after (by rw [oP, ow]; exact hq)
          | next => exact False.elim hq
          | brk => exact False.elim hq
          | cont => exact False.elim hq
    | ex y M' =>
      rw [e4] at A1
      obtain ⟨W, tk, acc⟩ := A1
      refine codeAny_mono (GG.run X.A X.stack s1 H1 ⟨us, []⟩ us vs (fun _ _ => False) (fun cls d H' => W cls d σ H') hr e0 hb' r ⟨hv, F1, ι1, M2, ws', R1, rw', ?_⟩) fun r s' hq => ?_
      · rw [e4]
        exact fun F' ι' H' cls d E R q => acc F' ι' H' cls d E R (by rw [show ExcIs X = ExcM T.mg from by show ExcM X.mg = _; rw [omg]]; exact q)
      · cases r with
        | error e => exact tk e s' (XE.of_call I1 (fun cls d H' h => h) (by rw [oP, ow]; exact hq))
        | ok fl =>
          cases fl with
          | ret u =>
            obtain ⟨_, _, _, _, _, _, _, z⟩ := hq
            exact False.elim z
          | next => exact False.elim hq
          | brk => exact False.elim hq
          | cont => exact False.elim hq
end
/-- how a def ends: new cells are forgotten, what is handed back becomes data -/
def clB (n : Nat) : MO → Bool
  | .gone => true
  | .lst ws => ws.all fun w => match w with
    | .d _ => true
    | .m j => decide (j < n)
  | .dic ks => ks.all fun q => match q.2 with
    | .d _ => true
    | .m j => decide (j < n)
  | .dil ks => ks.all fun q => match q.2 with
    | .d _ => true
    | .m j => decide (j < n)
theorem clB_ok {n : Nat} {mo : MO} (h : clB n mo = true) : InbO n mo := by
  cases mo with
  | gone => trivial
  | lst ws =>
    intro w hw
    have := List.all_eq_true.mp h w hw
    cases w with
    | d _ => trivial
    | m j => exact (of_decide_eq_true this : j < n)
  | dic ks =>
    intro q hq
    have := List.all_eq_true.mp h q hq
    obtain ⟨key, w⟩ := q
    cases w with
    | d _ => trivial
    | m j => exact (of_decide_eq_true this : j < n)
  | dil ks =>
    intro q hq
    have := List.all_eq_true.mp h q hq
    obtain ⟨key, w⟩ := q
    cases w with
    | d _ => trivial
    | m j => exact (of_decide_eq_true this : j < n)
/-! ### what is handed back becomes data -/
def optAll {α : Type} : List (Option α) → Option (List α)
  | [] => some []
  | o :: r => o.bind fun a => (optAll r).map fun l => a :: l
def optAllK {α : Type} : List (Key × Option α) → Option (List (Key × α))
  | [] => some []
  | q :: r => q.2.bind fun a => (optAllK r).map fun l => (q.1, a) :: l
theorem optAll_ok {α : Type} {o : Option α} {r : List (Option α)} {l : List α} (h : optAll (o :: r) = some l) : ∃ a l', o = some a ∧ optAll r = some l' ∧ l = a :: l' := by
  rw [optAll] at h
  cases o with
  | none => cases h
  | some a =>
    change (optAll r).map _ = _ at h
    cases e : optAll r with
    | none => rw [e] at h; cases h
    | some l' => rw [e] at h; cases h; exact ⟨a, l', rfl, rfl, rfl⟩
theorem optAllK_ok {α : Type} {q : Key × Option α} {r : List (Key × Option α)} {l : List (Key × α)} (h : optAllK (q :: r) = some l) : ∃ a l', q.2 = some a ∧ optAllK r = some l' ∧ l = (q.1, a) :: l' := by
  rw [optAllK] at h
  cases e1 : q.2 with
  | none => rw [e1] at h; cases h
  | some a =>
    rw [e1] at h
    change (optAllK r).map _ = _ at h
    cases e : optAllK r with
    | none => rw [e] at h; cases h
    | some l' => rw [e] at h; cases h; exact ⟨a, l', rfl, rfl, rfl⟩
/-- read through the cells that P tells -/
def frz (P : Nat → Bool) (M : MS) : Nat → W → Option PyData
  | 0, .d x => some x
  | 0, .m _ => none
  | _ + 1, .d x => some x
  | f + 1, .m k => if P k then (match M[k]? with
    | some (.lst ws) => (optAll (ws.map (frz P M f))).map .list
    | some (.dic ks) => (optAllK (ks.map fun q => (q.1, frz P M f q.2))).map dictK
    | _ => none) else none
@[simp] theorem frz_d (P : Nat → Bool) (M : MS) (f : Nat) (x : PyData) : frz P M f (.d x) = some x := by cases f <;> rfl
@[simp] theorem optAll_frz (P : Nat → Bool) (M : MS) (f : Nat) : ∀ ds : List PyData, optAll ((ds.map W.d).map (frz P M f)) = some ds
  | [] => rfl
  | d :: ds => by rw [List.map_cons, List.map_cons, optAll, optAll_frz P M f ds, frz_d]; rfl
@[simp] theorem optAllK_frz (P : Nat → Bool) (M : MS) (f : Nat) : ∀ ks : List (Key × PyData), optAllK ((ks.map fun q => (q.1, W.d q.2)).map fun q => (q.1, frz P M f q.2)) = some ks
  | [] => rfl
  | d :: ds => by rw [List.map_cons, List.map_cons, optAllK, optAllK_frz P M f ds, frz_d]; rfl
/-- the region and the cells that P tells -/
def regP (F H : Hp) (ι : List Addr) (P : Nat → Bool) : Hp := fun a => if (List.range ι.length).any (fun j => P j && decide (ι[j]? = some a)) = true then H a else F a
theorem reg_in {F H : Hp} {ι : List Addr} {P : Nat → Bool} {k : Nat} {a : Addr} (hk : P k = true) (ha : ι[k]? = some a) : regP F H ι P a = H a := by
  unfold regP
  rw [if_pos]
  refine List.any_eq_true.mpr ⟨k, List.mem_range.mpr (List.getElem?_eq_some_iff.mp ha).1, ?_⟩
  rw [hk, decide_eq_true ha]; rfl
theorem reg_cases {F H : Hp} {ι : List Addr} {P : Nat → Bool} (a : Addr) : (∃ k, P k = true ∧ ι[k]? = some a ∧ regP F H ι P a = H a) ∨ regP F H ι P a = F a := by
  by_cases h : (List.range ι.length).any (fun j => P j && decide (ι[j]? = some a)) = true
  · obtain ⟨k, _, q⟩ := List.any_eq_true.mp h
    obtain ⟨q1, q2⟩ := Bool.and_eq_true_iff.mp q
    exact .inl ⟨k, q1, of_decide_eq_true q2, reg_in q1 (of_decide_eq_true q2)⟩
  · exact .inr (if_neg h)
theorem reg_same {F H : Hp} {ι : List Addr} {P : Nat → Bool} (s : Same F H) : Same F (regP F H ι P) := fun a o e => by
  rcases reg_cases (F := F) (H := H) (ι := ι) (P := P) a with ⟨_, _, _, q⟩ | q
  · rw [q]; exact s a o e
  · rw [q]; exact e
theorem reg_sub {F H : Hp} {ι : List Addr} {P : Nat → Bool} (s : Same F H) : Same (regP F H ι P) H := fun a o e => by
  rcases reg_cases (F := F) (H := H) (ι := ι) (P := P) a with ⟨_, _, _, q⟩ | q
  · rw [q] at e; exact e
  · rw [q] at e; exact s a o e
theorem frz_at {F H : Hp} {ι : List Addr} {M : MS} {P : Nat → Bool} (R : Rep F H ι M) : ∀ (f : Nat) {v : V} {w : W} {d : PyData}, RW F ι v w → frz P M f w = some d → At (regP F H ι P) v d := by
  intro f
  induction f with
  | zero =>
    intro v w d r h
    cases w with
    | d x => rw [frz_d] at h; cases h; exact At.up (reg_same R.sub) r
    | m k => cases h
  | succ f ih =>
    intro v w d r h
    cases w with
    | d x => rw [frz_d] at h; cases h; exact At.up (reg_same R.sub) r
    | m k =>
      rw [frz] at h
      split at h
      · rename_i hP
        obtain ⟨a, ha, rfl⟩ := r
        split at h
        · rename_i ws hm
          rcases R.at_ k a _ ha hm with z | ⟨_, o, ho, vs, rfl, q⟩
          · cases z
          · cases e : optAll (ws.map (frz P M f)) with
            | none => rw [e] at h; cases h
            | some ds =>
              rw [e] at h
              cases h
              refine At.lst (by rw [reg_in hP ha]; exact ho) ?_
              clear hm ho
              induction q generalizing ds with
              | nil => cases e; exact .nil
              | @cons v1 w1 vs1 ws1 h1 t ih2 =>
                obtain ⟨d1, ds1, e1, e2, rfl⟩ := optAll_ok e
                exact .cons (ih h1 e1) (ih2 _ e2)
        · rename_i ks hm
          rcases R.at_ k a _ ha hm with z | ⟨_, o, ho, vs, rfl, q⟩
          · cases z
          · cases e : optAllK (ks.map fun q => (q.1, frz P M f q.2)) with
            | none => rw [e] at h; cases h
            | some ds =>
              rw [e] at h
              cases h
              refine At.dic (by rw [reg_in hP ha]; exact ho) ?_
              clear hm ho
              induction q generalizing ds with
              | nil => cases e; exact .nil
              | @cons v1 w1 vs1 ws1 h1 t ih2 =>
                obtain ⟨k1, v1⟩ := v1
                obtain ⟨k2, w1⟩ := w1
                obtain ⟨e0, h1⟩ := h1
                have e0 : k1 = k2 := e0
                subst e0
                obtain ⟨d1, ds1, e1, e2, rfl⟩ := optAllK_ok e
                exact .cons (ih h1 e1) (ih2 _ e2)
        · cases h
      · cases h
/-- the first n cells stand, the others go into the region (those that P tells) or are forgotten -/
theorem fin_rep {F0 H0 F H : Hp} {ι0 ι : List Addr} {M : MS} {P : Nat → Bool} (R : Rep F H ι M) (E : Ext F0 ι0 H0 F ι H) (hP : ∀ k, P k = true → ι0.length ≤ k) (hc : (M.take ι0.length).all (clB ι0.length) = true) :
    Ext F0 ι0 H0 (regP F H ι P) ι0 H ∧ Rep (regP F H ι P) H ι0 (M.take ι0.length) := by
  obtain ⟨r, rfl⟩ := E.pre
  have out : ∀ {k : Nat} {a : Addr}, P k = true → (ι0 ++ r)[k]? = some a → a ∉ ι0 := fun {k a} h1 h2 h3 => by
    have hk := hP k h1
    obtain ⟨j, hj, ej⟩ := List.getElem_of_mem h3
    have h4 : (ι0 ++ r)[j]? = some a := by rw [List.getElem?_append_left hj, List.getElem?_eq_getElem hj, ej]
    have := (List.getElem?_inj (List.getElem?_eq_some_iff.mp h4).1 R.nd).mp (h4.trans h2.symm)
    omega
  have hlen : ι0.length ≤ M.length := by rw [← R.len, List.length_append]; omega
  refine ⟨⟨E.same.trans (reg_same R.sub), ⟨[], by simp⟩, E.kp, fun a h n => absurd h n, fun a o e n => ?_, E.fz⟩, ⟨reg_sub R.sub, by rw [List.length_take]; omega, (List.nodup_append.mp R.nd).1, fun a h => R.tr a (List.mem_append_left _ h), fun k a mo h1 h2 => ?_⟩⟩
  · rcases reg_cases (F := F) (H := H) (ι := ι0 ++ r) (P := P) a with ⟨k, q1, q2, q⟩ | q
    · have na := out q1 q2
      exact .inl (E.fr a (List.mem_of_getElem? q2) na)
    · rw [q] at e; exact E.nw a o e n
  · have hk : k < ι0.length := (List.getElem?_eq_some_iff.mp h1).1
    have h1' : (ι0 ++ r)[k]? = some a := by rw [List.getElem?_append_left hk]; exact h1
    have h2' : M[k]? = some mo := by rw [List.getElem?_take_of_lt hk] at h2; exact h2
    rcases R.at_ k a mo h1' h2' with z | ⟨z1, o, z2, z3⟩
    · exact .inl z
    · refine .inr ⟨?_, o, z2, ?_⟩
      · rcases reg_cases (F := F) (H := H) (ι := ι0 ++ r) (P := P) a with ⟨j, q1, q2, q⟩ | q
        · exact absurd (List.mem_of_getElem? h1) (out q1 q2)
        · rw [q]; exact z1
      · have hb := clB_ok (List.all_eq_true.mp hc mo (List.mem_of_getElem? h2))
        have cut : ∀ {v : V} {w : W}, RW F (ι0 ++ r) v w → InbW ι0.length w → RW (regP F H (ι0 ++ r) P) ι0 v w := fun {v w} q hi => by
          cases w with
          | d x => exact At.up (reg_same R.sub) q
          | m j =>
            obtain ⟨b, hb2, rfl⟩ := q
            exact ⟨b, by rw [List.getElem?_append_left hi] at hb2; exact hb2, rfl⟩
        cases mo with
        | gone => trivial
        | lst ws => obtain ⟨us, e, q⟩ := z3; exact ⟨us, e, paired_cut (P := fun w => InbW ι0.length w) (fun _ _ q1 q2 => cut q1 q2) q fun w hw => hb w hw⟩
        | dic ws => obtain ⟨us, e, q⟩ := z3; exact ⟨us, e, paired_cut (P := fun q : Key × W => InbW ι0.length q.2) (fun _ _ q1 q2 => ⟨q1.1, cut q1.2 q2⟩) q fun w hw => hb w hw⟩
        | dil ws => obtain ⟨od, us, e, q⟩ := z3; exact ⟨od, us, e, paired_cut (P := fun q : Key × W => InbW ι0.length q.2) (fun _ _ q1 q2 => ⟨q1.1, cut q1.2 q2⟩) q fun w hw => hb w hw⟩
end Z

/-! S9: THE RULE for a def. -/
namespace Z
open PySem PySem.Spec PyProof.Rows L2
/-- the old cells stand as they were, or name no new ones -/
def FinOk (M0 M : MS) : Prop := ∀ k mo, k < M0.length → M[k]? = some mo → M0[k]? = some mo ∨ clB M0.length mo = true
theorem InbW.up {n m : Nat} {w : W} (h : InbW n w) (l : n ≤ m) : InbW m w := by
  cases w with
  | d _ => trivial
  | m j => exact Nat.lt_of_lt_of_le (show j < n from h) l
theorem clB_of {n : Nat} {mo : MO} (h : InbO n mo) : clB n mo = true := by
  cases mo with
  | gone => rfl
  | lst ws =>
    refine List.all_eq_true.mpr fun w hw => ?_
    have := h w hw
    cases w with
    | d _ => rfl
    | m j => exact decide_eq_true (show j < n from this)
  | dic ks =>
    refine List.all_eq_true.mpr fun q hq => ?_
    have := h q hq
    obtain ⟨key, w⟩ := q
    cases w with
    | d _ => rfl
    | m j => exact decide_eq_true (show j < n from this)
  | dil ks =>
    refine List.all_eq_true.mpr fun q hq => ?_
    have := h q hq
    obtain ⟨key, w⟩ := q
    cases w with
    | d _ => rfl
    | m j => exact decide_eq_true (show j < n from this)
theorem FinOk.all {M0 M : MS} (h : FinOk M0 M) (c : Cl M0) : (M.take M0.length).all (clB M0.length) = true := by
  refine List.all_eq_true.mpr fun mo hm => ?_
  obtain ⟨k, hk, e⟩ := List.getElem_of_mem hm
  have hk2 : k < M0.length := by rw [List.length_take] at hk; omega
  have e2 : M[k]? = some mo := by
    rw [← List.getElem?_take_of_lt hk2, List.getElem?_eq_getElem hk, e]
  rcases h k mo hk2 e2 with q | q
  · exact clB_of (c mo (List.mem_of_getElem? q))
  · exact q
abbrev FinF := MS → W → MS → Res W
open Classical in
/-- what is handed back becomes data -/
noncomputable def finD : FinF := fun M0 w M => if FinOk M0 M then (match w with
  | .d x => .ok (.d x) (M.take M0.length)
  | .m k => if k < M0.length then .ok (.m k) (M.take M0.length) else match frz (fun j => decide (M0.length ≤ j)) M 12 (.m k) with
    | some d => .ok (.d d) (M.take M0.length)
    | none => .bad) else .bad
def topM (M0 : MS) (k : Nat) (M : MS) : Option MO := match M[k]? with
  | some (.lst ws) => (optAll (ws.map (frz (fun j => decide (M0.length ≤ j) && !decide (j = k)) M 12))).map fun ds => .lst (ds.map .d)
  | some (.dic ks) => (optAllK (ks.map fun q => (q.1, frz (fun j => decide (M0.length ≤ j) && !decide (j = k)) M 12 q.2))).map fun r => .dic (r.map fun q => (q.1, .d q.2))
  | _ => none
open Classical in
/-- what is handed back is a new cell of data -/
noncomputable def finM : FinF := fun M0 w M => if FinOk M0 M then (match w with
  | .d _ => .bad
  | .m k => if k < M0.length then .bad else match topM M0 k M with
    | some mo => .ok (.m M0.length) (M.take M0.length ++ [mo])
    | none => .bad) else .bad
open Classical in
noncomputable def finX {α : Type} (M0 : MS) (x : Exc) (M : MS) : Res α := if FinOk M0 M then .ex x (M.take M0.length) else .bad
noncomputable def defF (fin : FinF) (n : Nat) (body : SF) : FF := fun ws M => match body (ws.map some ++ List.replicate (n - ws.length) none) M with
  | .nx _ M' => fin M (.d .none) M'
  | .rt w M' => fin M w M'
  | .ex x _ M' => finX M x M'
  | _ => .bad
def FinSound (fin : FinF) : Prop := ∀ F0 ι0 H0 M0 F ι H M w v w' M', Rep F0 H0 ι0 M0 → Ext F0 ι0 H0 F ι H → Rep F H ι M → RW F ι v w → fin M0 w M = .ok w' M' → Post F0 ι0 H0 (fun w2 M2 => w2 = w' ∧ M2 = M') v H
theorem finD_sound : FinSound finD := by
  intro F0 ι0 H0 M0 F ι H M w v w' M' R0 E R r h
  unfold finD at h
  split at h
  · rename_i hf
    have hl := R0.len
    have ca := hf.all R0.cl
    rw [← hl] at ca
    split at h
    · rename_i x
      cases h
      obtain ⟨E2, R2⟩ := fin_rep (P := fun _ => false) R E (fun _ z => by cases z) ca
      rw [hl] at R2
      exact ⟨_, _, _, _, E2, R2, RW.dat (At.up (reg_same R.sub) r), rfl, rfl⟩
    · rename_i k
      split at h
      · rename_i hk
        cases h
        obtain ⟨E2, R2⟩ := fin_rep (P := fun _ => false) R E (fun _ z => by cases z) ca
        rw [hl] at R2
        obtain ⟨a, ha, rfl⟩ := r
        obtain ⟨rr, rfl⟩ := E.pre
        rw [List.getElem?_append_left (by rw [hl]; exact hk)] at ha
        exact ⟨_, _, _, _, E2, R2, RW.m ha, rfl, rfl⟩
      · split at h
        · rename_i d hd
          cases h
          obtain ⟨E2, R2⟩ := fin_rep (P := fun j => decide (M0.length ≤ j)) R E (fun j z => by rw [hl]; exact of_decide_eq_true z) ca
          rw [hl] at R2
          exact ⟨_, _, _, _, E2, R2, RW.dat (frz_at R 12 r hd), rfl, rfl⟩
        · cases h
  · cases h
theorem finX_sound {α : Type} {F0 H0 F H : Hp} {ι0 ι : List Addr} {M0 M M' : MS} {x x' : Exc} (R0 : Rep F0 H0 ι0 M0) (E : Ext F0 ι0 H0 F ι H) (R : Rep F H ι M) (h : (finX M0 x M : Res α) = .ex x' M') :
    x' = x ∧ Ext F0 ι0 H0 F ι0 H ∧ Rep F H ι0 M' := by
  unfold finX at h
  split at h
  · rename_i hf
    cases h
    have hl := R0.len
    have ca := hf.all R0.cl
    rw [← hl] at ca
    obtain ⟨E2, R2⟩ := fin_rep (P := fun _ => false) R E (fun _ z => by cases z) ca
    rw [hl] at R2
    have e : regP F H ι (fun _ => false) = F := by
      funext a
      rcases reg_cases (F := F) (H := H) (ι := ι) (P := fun _ => false) a with ⟨_, z, _⟩ | z
      · cases z
      · exact z
    rw [e] at E2 R2
    exact ⟨rfl, E2, R2⟩
  · cases h
theorem finX_ok {α : Type} {M0 M M' : MS} {x : Exc} {w : α} (h : (finX M0 x M : Res α) = .ok w M') : False := by
  unfold finX at h
  split at h <;> cases h
theorem finD_ex {M0 M M' : MS} {w : W} {x : Exc} (h : finD M0 w M = .ex x M') : False := by
  unfold finD at h
  split at h
  · split at h
    · cases h
    · split at h
      · cases h
      · split at h <;> cases h
  · cases h
theorem finM_ex {M0 M M' : MS} {w : W} {x : Exc} (h : finM M0 w M = .ex x M') : False := by
  unfold finM at h
  split at h
  · split at h
    · cases h
    · split at h
      · cases h
      · split at h <;> cases h
  · cases h
theorem finM_sound : FinSound finM := by
  intro F0 ι0 H0 M0 F ι H M w v w' M' R0 E R r h
  unfold finM at h
  split at h
  · rename_i hf
    have hl := R0.len
    have ca := hf.all R0.cl
    rw [← hl] at ca
    split at h
    · cases h
    · rename_i k
      split at h
      · cases h
      · rename_i hk
        split at h
        · rename_i mo hmo
          cases h
          obtain ⟨E2, R2⟩ := fin_rep (P := fun j => decide (M0.length ≤ j) && !decide (j = k)) R E (fun j z => by rw [hl]; exact of_decide_eq_true (Bool.and_eq_true_iff.mp z).1) ca
          rw [hl] at R2
          obtain ⟨a, ha, rfl⟩ := r
          have hka : M[k]? ≠ some .gone := fun z => by unfold topM at hmo; rw [z] at hmo; cases hmo
          -- the cell's own address is none of the old ones, and not in the region
          have na : a ∉ ι0 := fun z => by
            obtain ⟨rr, rfl⟩ := E.pre
            obtain ⟨j, hj, ej⟩ := List.getElem_of_mem z
            have h4 : (ι0 ++ rr)[j]? = some a := by rw [List.getElem?_append_left hj, List.getElem?_eq_getElem hj, ej]
            have := (List.getElem?_inj (List.getElem?_eq_some_iff.mp h4).1 R.nd).mp (h4.trans ha.symm)
            rw [hl] at hj
            omega
          have nF : ∀ o, (F a = none ∧ H a = some o) → regP F H ι (fun j => decide (M0.length ≤ j) && !decide (j = k)) a = none := fun o z => by
            rcases reg_cases (F := F) (H := H) (ι := ι) (P := fun j => decide (M0.length ≤ j) && !decide (j = k)) a with ⟨j, q1, q2, q⟩ | q
            · have : j = k := (List.getElem?_inj (List.getElem?_eq_some_iff.mp q2).1 R.nd).mp (q2.trans ha.symm)
              subst this
              simp at q1
            · rw [q]; exact z.1
          have add : ∀ {o : HO} {mo' : MO}, F a = none → H a = some o → MOk (regP F H ι fun j => decide (M0.length ≤ j) && !decide (j = k)) ι0 mo' o → Post F0 ι0 H0 (fun w2 M2 => w2 = .m M0.length ∧ M2 = M.take M0.length ++ [mo']) (.ref a) H := fun {o mo'} f1 f2 f3 => by
            obtain ⟨E3, R3⟩ := out_cell (mo := mo') E2 R2 f2 (nF o ⟨f1, f2⟩) na (E.fr a (List.mem_of_getElem? ha) na) f3
            refine ⟨_, _, _, _, E3, R3, RW.m ?_, rfl, rfl⟩
            rw [← hl, List.getElem?_append_right (Nat.le_refl _)]; simp
          unfold topM at hmo
          split at hmo
          · rename_i ws hm
            rcases R.at_ k a _ ha hm with z | ⟨z1, o, z2, vs, rfl, q⟩
            · cases z
            · cases eo : optAll (ws.map (frz (fun j => decide (M0.length ≤ j) && !decide (j = k)) M 12)) with
              | none => rw [eo] at hmo; cases hmo
              | some ds =>
                rw [eo] at hmo
                cases hmo
                refine add z1 z2 ⟨vs, rfl, RWs.of ?_⟩
                clear z2 hm add nF hf ca
                induction q generalizing ds with
                | nil => cases eo; exact .nil
                | @cons v1 w1 vs1 ws1 h1 t ih2 =>
                  obtain ⟨d1, ds1, e1, e2, rfl⟩ := optAll_ok eo
                  exact .cons (frz_at R 12 h1 e1) (ih2 _ e2)
          · rename_i ks hm
            rcases R.at_ k a _ ha hm with z | ⟨z1, o, z2, vs, rfl, q⟩
            · cases z
            · cases eo : optAllK (ks.map fun q => (q.1, frz (fun j => decide (M0.length ≤ j) && !decide (j = k)) M 12 q.2)) with
              | none => rw [eo] at hmo; cases hmo
              | some ds =>
                rw [eo] at hmo
                cases hmo
                refine add z1 z2 ⟨vs, rfl, ?_⟩
                clear z2 hm add nF hf ca
                induction q generalizing ds with
                | nil => cases eo; exact .nil
                | @cons v1 w1 vs1 ws1 h1 t ih2 =>
                  obtain ⟨k1, v1⟩ := v1
                  obtain ⟨k2, w1⟩ := w1
                  obtain ⟨e0, h1⟩ := h1
                  obtain ⟨d1, ds1, e1, e2, rfl⟩ := optAllK_ok eo
                  exact .cons ⟨e0, (show RW _ _ v1 (.d d1) from frz_at R 12 h1 e1)⟩ (ih2 _ e2)
          · cases hmo
        · cases h
  · cases h
/-- the context of a def's body, exceptions told -/
abbrev dcxX (T : Top) (x : Str) (st : Stmt) (N : List Str) (f : Addr) (cdv : Value) (A : Around) (outer : List Env) (s : Shared) (H : Hp) (E : XK) : Cx :=
  cxOf (L2.CX T.P T.w) T.P T.w T.K T.mg T.base N x (defScope st) f cdv A outer s H E
theorem dcx_pass {T : Top} {x : Str} {st : Stmt} {N : List Str} {f : Addr} {cdv : Value} {A : Around} {outer : List Env} {s : Shared} {H : Hp} {E : XK} :
    PassesOwn (model (dcxX T x st N f cdv A outer s H E).prog (dcxX T x st N f cdv A outer s H E).w) (dcxX T x st N f cdv A outer s H E).A (dcxX T x st N f cdv A outer s H E).env (dcxX T x st N f cdv A outer s H E).xe := passes_of rfl
theorem fs_of {T : Top} {x : Str} {st : Stmt} {N ps : List Str} {k : Nat} {G : SF} {fin : FinF} (fs : FinSound fin) (fx : ∀ {M0 M M' : MS} {w : W} {x : Exc}, fin M0 w M = .ex x M' → False) (D : DefAt T x st) (Sc : FnScope N ps (defScope st))
    (hb : ∀ (kV doc pm : Value) (an : Option Addr) (cdv ct : Value) (us : List Value), us.length = ps.length → bindArgs (PySem.W.fnOf x x (defArgs st) (defBody st) (defScope st) .none kV doc pm an cdv ct) ⟨us, []⟩ = pure (ps.zip us))
    (body : ∀ (f : Addr) (cdv : Value) (A : Around) (outer : List Env) (s : Shared) (H : Hp) (E : XK), RoomZ k (A.deeper (envOfC x (defScope st) s.heap.objs.size f cdv)) → SSs (dcxX T x st N f cdv A outer s H E) (defBody st) G) : Fs T (k + 1) x ps (defF fin N.length G) := by
  obtain ⟨f, fd, F, hmg⟩ := D
  have hbi := F.binds hb
  refine ⟨f, fd, hmg, F.kp, hbi, ⟨fun vs H Q E h => h.1, fun A outer s H args us vs Q E hr e0 hB r hsp => ?_⟩⟩
  obtain ⟨oc, od, kV, doc, pm, an, cdv, ct, osl, rfl, lk, hcd⟩ := F.ex
  obtain ⟨hl, F1, ι, M, ws, R, rws, hS⟩ := hsp
  have KX : T.K.In s.heap := e0.mod.kin.keeps fun b o e => (e0.bs b o e).1
  have lim : s.heap.NoLimit := e0.mod.nolimit.keeps fun b o e => (e0.bs b o e).1
  have kinds : ∀ y ∈ ps.zip us, (defScope st).names.lookup y.1 = some .local ∨ ((defScope st).names.lookup y.1 = some .cell ∧ ((cellsFrom (s.heap.objs.size + 1) (defScope st).names []).lookup y.1).isSome = true) := by
    rintro ⟨n, v⟩ hy
    exact (Sc.par n (List.of_mem_zip hy).1).imp id fun q => ⟨q, PySem.W.cellsFrom_some _ _ _ (.inl q)⟩
  refine codeAny_call_function hr.r.depth (KX _ _ lk) rfl Sc.co Sc.gen rfl (PySem.W.codeRec_of KX hcd) (hB _ _ _ _ ?_)
  refine wpAny_newFunctionEnv_cells Sc.kind kinds fun env he s1 x' => ?_
  subst he
  refine ⟨lim.keeps x'.toInCall.keep, codeAny_func ?_⟩
  have I : Inv (dcxX T x st N f cdv A outer s H E) [] (L2.start N vs) H s1 := inv_start Sc hr.r.hd e0 hl r x'
  have b := body f cdv A outer s H E (hr.deeper _) (startG N ws) M F1 ι _ H R (slots_start (N := N) rws)
  have en : startG N ws = ws.map some ++ List.replicate (N.length - ws.length) none := rfl
  have fin' : ∀ {σ' : St} {H' : Hp} {v : V} {u : Value} {s' : Shared} {w : W} {M' : MS}, defF fin N.length G ws M = .ok w M' → Inv (dcxX T x st N f cdv A outer s H E) [] σ' H' s' → RelV v u → Post F1 ι H (fun w' M'' => w' = w ∧ M'' = M') v H' → CE outer T.P T.w H s Q u s' :=
    fun {σ' H' v u s' w M'} e J rv q => by
      rw [e] at hS
      exact ⟨_, _, J.os, J.bare, J.base, J.hok, rv, hS _ _ q⟩
  have run : ∀ rr, G (startG N ws) M = rr → AccS (dcxX T x st N f cdv A outer s H E) F1 ι H rr → wSs (dcxX T x st N f cdv A outer s H E) (defBody st) (PRS F1 ι H rr) (L2.start N vs) H := fun rr e a => by
    rw [← e] at a ⊢
    exact b a
  cases eg : G (startG N ws) M with
  | bad => unfold defF at hS; rw [← en, eg] at hS; exact False.elim hS
  | bk _ _ => unfold defF at hS; rw [← en, eg] at hS; exact False.elim hS
  | ct _ _ => unfold defF at hS; rw [← en, eg] at hS; exact False.elim hS
  | rt w M' =>
    have ed : defF fin N.length G ws M = fin M w M' := by unfold defF; rw [← en, eg]
    refine wpAny_mono (run _ eg trivial [] s1 I) (fun fl s' hs => ?_) fun e s' hs => hs
    cases fl with
    | ret u =>
      obtain ⟨v, σ', H', J, rv, F2, ι2, M2, w2, E2, R2, r2, e1, e2⟩ := hs
      subst e1 e2
      cases ef : fin M w2 M2 with
      | bad => rw [ed, ef] at hS; exact False.elim hS
      | ex _ _ => exact (fx ef).elim
      | ok w3 M3 => exact fin' (ed.trans ef) J rv (fs _ _ _ _ _ _ _ _ _ _ _ _ R E2 R2 r2 ef)
    | next => obtain ⟨_, _, _, z⟩ := hs; exact False.elim z
    | brk => obtain ⟨_, _, _, z⟩ := hs; exact False.elim z
    | cont => obtain ⟨_, _, _, z⟩ := hs; exact False.elim z
  | nx Γ' M' =>
    have ed : defF fin N.length G ws M = fin M (.d .none) M' := by unfold defF; rw [← en, eg]
    refine wpAny_mono (run _ eg trivial [] s1 I) (fun fl s' hs => ?_) fun e s' hs => hs
    cases fl with
    | next =>
      obtain ⟨σ', H', J, F2, ι2, M2, Γ2, E2, R2, S2, e1, e2⟩ := hs
      subst e1 e2
      cases ef : fin M (.d .none) M2 with
      | bad => rw [ed, ef] at hS; exact False.elim hS
      | ex _ _ => exact (fx ef).elim
      | ok w3 M3 => exact fin' (v := V.non) (u := Value.none) (ed.trans ef) J rfl (fs _ _ _ _ _ _ _ _ _ _ _ _ R E2 R2 (show RW F2 ι2 V.non (.d .none) from At.non) ef)
    | ret u => obtain ⟨_, _, _, _, _, z⟩ := hs; exact False.elim z
    | brk => obtain ⟨_, _, _, z⟩ := hs; exact False.elim z
    | cont => obtain ⟨_, _, _, z⟩ := hs; exact False.elim z
  | ex y Γ' M' =>
    have ed : defF fin N.length G ws M = finX M y M' := by unfold defF; rw [← en, eg]
    have tk : Takes (dcxX T x st N f cdv A outer s H E) (fun cls d _ H => E cls d H) := takes_of rfl rfl rfl rfl
    refine wpAny_mono (run _ eg ⟨_, tk, fun F' ι' H' σ' cls d E' R' S' q => ?_⟩ [] s1 I) (fun fl s' hs => ?_) fun e s' hs => hs
    · cases ef : (finX M y M' : Res W) with
      | bad => rw [ed, ef] at hS; exact False.elim hS
      | ok _ _ => exact (finX_ok ef).elim
      | ex y2 M2 =>
        rw [ed, ef] at hS
        obtain ⟨rfl, E3, R3⟩ := finX_sound R E' R' ef
        exact hS F' ι H' cls d E3 R3 q
    · cases fl with
      | next => obtain ⟨_, _, _, z⟩ := hs; exact False.elim z
      | ret u => obtain ⟨_, _, _, _, _, z⟩ := hs; exact False.elim z
      | brk => obtain ⟨_, _, _, z⟩ := hs; exact False.elim z
      | cont => obtain ⟨_, _, _, z⟩ := hs; exact False.elim z
end Z

/-! S10: methods, more built-ins. -/
namespace Z
open PySem PySem.Spec PyProof.Rows L2
/-- the list in a cell -/
def lstM (M : MS) (w : W) : Option (Nat × List W) := match w with
  | .m j => (match M[j]? with
    | some (.lst ws) => some (j, ws)
    | _ => none)
  | _ => none
theorem lstM_ok {M : MS} {w : W} {j : Nat} {ws : List W} (h : lstM M w = some (j, ws)) : w = .m j ∧ M[j]? = some (.lst ws) := by
  unfold lstM at h
  split at h
  · split at h
    · cases h; exact ⟨rfl, by assumption⟩
    · cases h
  · cases h
theorem lstM_of {M : MS} {j : Nat} {ws : List W} (h : M[j]? = some (.lst ws)) : lstM M (.m j) = some (j, ws) := by
  unfold lstM
  dsimp only
  rw [h]
/-- a method of a cell with one, two arguments -/
def met1 (op : Nat → List W → W → MS → Option (W × MS)) (f g : EF) : EF := fun Γ M => match f Γ M with
  | .ok x M1 => (match lstM M1 x with
    | some _ => (match g Γ M1 with
      | .ok y M2 => (match lstM M2 x with
        | some (j, ws) => Res.of (op j ws y M2)
        | none => .bad)
      | _ => .bad)
    | none => .bad)
  | _ => .bad
def met2 (op : Nat → List W → W → W → MS → Option (W × MS)) (f g h : EF) : EF := fun Γ M => match f Γ M with
  | .ok x M1 => (match lstM M1 x with
    | some _ => (match g Γ M1 with
      | .ok y M2 => (match h Γ M2 with
        | .ok z M3 => (match lstM M3 x with
          | some (j, ws) => Res.of (op j ws y z M3)
          | none => .bad)
        | _ => .bad)
      | _ => .bad)
    | none => .bad)
  | _ => .bad
section
variable {X : Cx} {e a b c o f tg it elt : Expr} {es ifs : List Expr} {scope : Scope} {pos p pos2 p2 apos cpos : Pos} {Γ : GS} {M : MS} {k : Nat}
theorem se_met1 {call : Expr} {op : Nat → List W → W → MS → Option (W × MS)} {f1 f2 : EF} (ok : ∀ Γ M Φ, ZE X o Γ M (fun x M1 => IsLst x M1 ∧ ZE X e Γ M1 fun y M2 => ∃ j ws w M3, x = .m j ∧ M2[j]? = some (.lst ws) ∧ op j ws y M2 = some (w, M3) ∧ Φ w M3) → ZE X call Γ M Φ) (h1 : SE X o f1) (h2 : SE X e f2) : SE X call (met1 op f1 f2) := fun Γ M => by
  have q1 := h1 Γ M
  unfold met1
  cases e1 : f1 Γ M with
  | bad => exact .bad
  | ex _ _ => exact .bad
  | ok x M1 =>
    rw [e1] at q1
    dsimp only
    cases el : lstM M1 x with
    | none => exact .bad
    | some pr =>
      obtain ⟨j0, ws0⟩ := pr
      dsimp only
      have q2 := h2 Γ M1
      cases e2 : f2 Γ M1 with
      | bad => exact .bad
      | ex _ _ => exact .bad
      | ok y M2 =>
        rw [e2] at q2
        dsimp only
        cases el2 : lstM M2 x with
        | none => exact .bad
        | some pr2 =>
          obtain ⟨j, ws⟩ := pr2
          dsimp only
          cases eo : op j ws y M2 with
          | none => exact .bad
          | some r =>
            obtain ⟨w, M3⟩ := r
            obtain ⟨r1, r2⟩ := lstM_ok el
            obtain ⟨r3, r4⟩ := lstM_ok el2
            exact .of (ok Γ M _ (q1.ze ⟨.inr ⟨_, _, r1, r2⟩, q2.ze ⟨j, ws, w, M3, r3, r4, eo, rfl, rfl⟩⟩))
def appV (j : Nat) (ws : List W) (y : W) (M : MS) : Option (W × MS) := if ws.length < sizeLine then some (.d .none, M.set j (.lst (ws ++ [y]))) else none
theorem se_append {f1 f2 : EF} (h1 : SE X o f1) (h2 : SE X e f2) (sy : MSyn X o "append" e [] apos cpos := by exact ⟨by rfl, by rfl, by rfl, by rfl, by rfl⟩) : SE X (.Call (.Attribute o "append" apos) [e] [] cpos) (met1 appV f1 f2) :=
  se_met1 (fun Γ M Φ h => zm_append (h.mono fun x M1 ⟨hl, q⟩ => ⟨hl, q.mono fun y M2 ⟨j, ws, w, M3, e1, e2, e3, φ⟩ => by
    unfold appV at e3
    split at e3
    · cases e3; exact ⟨j, ws, e1, e2, by assumption, φ⟩
    · cases e3⟩) sy) h1 h2
def popV (j : Nat) (ws : List W) (y : W) (M : MS) : Option (W × MS) := match intW y with
  | some i => if -(2 ^ 63) ≤ i ∧ i < 2 ^ 63 then (seqIndex? i ws.length).bind fun n => (ws[n]?).map fun w => (w, M.set j (.lst (ws.eraseIdx n))) else none
  | none => none
theorem se_popAt {f1 f2 : EF} (h1 : SE X o f1) (h2 : SE X e f2) (sy : MSyn X o "pop" e [] apos cpos := by exact ⟨by rfl, by rfl, by rfl, by rfl, by rfl⟩) : SE X (.Call (.Attribute o "pop" apos) [e] [] cpos) (met1 popV f1 f2) :=
  se_met1 (fun Γ M Φ h => zm_popAt (h.mono fun x M1 ⟨hl, q⟩ => ⟨hl, q.mono fun y M2 ⟨j, ws, w, M3, e1, e2, e3, φ⟩ => by
    unfold popV at e3
    split at e3
    · rename_i i hi
      split at e3
      · rename_i hb
        cases en : seqIndex? i ws.length with
        | none => rw [en] at e3; cases e3
        | some n =>
          rw [en] at e3
          have e3 : (ws[n]?).map (fun w => (w, M2.set j (.lst (ws.eraseIdx n)))) = some (w, M3) := e3
          cases ew : ws[n]? with
          | none => rw [ew] at e3; cases e3
          | some z => rw [ew] at e3; cases e3; exact ⟨j, ws, i, n, w, e1, intW_ok hi, e2, hb.1, hb.2, en, ew, φ⟩
      · cases e3
    · cases e3⟩) sy) h1 h2
def insV (j : Nat) (ws : List W) (y z : W) (M : MS) : Option (W × MS) := match intW y with
  | some i => if ws.length < sizeLine ∧ 0 ≤ i ∧ i < 2 ^ 63 then some (.d .none, M.set j (.lst (ws.take i.toNat ++ [z] ++ ws.drop i.toNat))) else none
  | none => none
theorem se_insert {f1 f2 f3 : EF} (h1 : SE X o f1) (h2 : SE X e f2) (h3 : SE X f f3) (sy : MSyn X o "insert" e [f] apos cpos := by exact ⟨by rfl, by rfl, by rfl, by rfl, by rfl⟩) (hs2 : starEach [f] X.env = (false, eval f X.env) :: starEach [] X.env := by rfl) :
    SE X (.Call (.Attribute o "insert" apos) [e, f] [] cpos) (met2 insV f1 f2 f3) := fun Γ M => by
  have q1 := h1 Γ M
  unfold met2
  cases e1 : f1 Γ M with
  | bad => exact .bad
  | ex _ _ => exact .bad
  | ok x M1 =>
    rw [e1] at q1
    dsimp only
    cases el : lstM M1 x with
    | none => exact .bad
    | some pr =>
      obtain ⟨j0, ws0⟩ := pr
      dsimp only
      have q2 := h2 Γ M1
      cases e2 : f2 Γ M1 with
      | bad => exact .bad
      | ex _ _ => exact .bad
      | ok y M2 =>
        rw [e2] at q2
        dsimp only
        have q3 := h3 Γ M2
        cases e3 : f3 Γ M2 with
        | bad => exact .bad
        | ex _ _ => exact .bad
        | ok z M3 =>
          rw [e3] at q3
          dsimp only
          cases el2 : lstM M3 x with
          | none => exact .bad
          | some pr2 =>
            obtain ⟨j, ws⟩ := pr2
            dsimp only
            unfold insV
            cases hi : intW y with
            | none => exact .bad
            | some i =>
              dsimp only
              split
              · rename_i hb
                obtain ⟨r1, r2⟩ := lstM_ok el
                obtain ⟨r3, r4⟩ := lstM_ok el2
                exact .of (zm_insert (q1.ze ⟨.inr ⟨_, _, r1, r2⟩, q2.ze (q3.ze ⟨j, ws, i, r3, intW_ok hi, r4, hb.1, hb.2.1, hb.2.2, rfl, rfl⟩)⟩) sy hs2)
              · exact .bad
/-- xs.extend(ys), ys a list of data -/
theorem zm_extend {Φ : W → MS → Prop} (h : ZE X o Γ M fun x M1 => IsLst x M1 ∧ ZE X e Γ M1 fun y M2 => ∃ j ws ds, x = .m j ∧ M2[j]? = some (.lst ws) ∧ LstW y M2 ds ∧ ws.length + ds.length ≤ sizeLine ∧ Φ (.d .none) (M2.set j (.lst (ws ++ ds.map .d))))
    (sy : MSyn X o "extend" e [] apos cpos := by exact ⟨by rfl, by rfl, by rfl, by rfl, by rfl⟩) : ZE X (.Call (.Attribute o "extend" apos) [e] [] cpos) Γ M Φ :=
  zm_list PySem.F.slot_list_extend PySem.F.type_list_extend mt_extend (Ψ := fun x xs M2 => ∃ j ws y ds, xs = [y] ∧ x = .m j ∧ M2[j]? = some (.lst ws) ∧ LstW y M2 ds ∧ ws.length + ds.length ≤ sizeLine ∧ Φ (.d .none) (M2.set j (.lst (ws ++ ds.map .d))))
    (h.mono fun x M1 ⟨hl, q⟩ => ⟨hl, za_cons (q.mono fun y M2 ⟨j, ws, ds, e1, e2, e3, e4, φ⟩ => za_nil ⟨j, ws, y, ds, rfl, e1, e2, e3, e4, φ⟩) sy.star⟩)
    (fun F ι H M v x vs xs Q R rx rs ψ hQ => by
      obtain ⟨j, ws, y, ds, rfl, rfl, hm, hy, hz, φ⟩ := ψ
      obtain ⟨c, us, rfl, hc, h1, rw'⟩ := cell_at R rx hm
      cases rs with
      | cons ry rn =>
        cases rn
        obtain ⟨b, zs, rfl, hb, rz⟩ := hy.at R ry
        exact ⟨c, b, us, zs, rfl, rfl, h1, hb, by rw [rw'.len, rz.len]; exact hz, cell_put R hc hm (rw'.app (RWs.of rz)) (.dat .non) φ hQ⟩) sy
def extV (j : Nat) (ws : List W) (y : W) (M : MS) : Option (W × MS) := match lstD M y with
  | some ds => if ws.length + ds.length ≤ sizeLine then some (.d .none, M.set j (.lst (ws ++ ds.map .d))) else none
  | none => none
theorem se_extend {f1 f2 : EF} (h1 : SE X o f1) (h2 : SE X e f2) (sy : MSyn X o "extend" e [] apos cpos := by exact ⟨by rfl, by rfl, by rfl, by rfl, by rfl⟩) : SE X (.Call (.Attribute o "extend" apos) [e] [] cpos) (met1 extV f1 f2) :=
  se_met1 (fun Γ M Φ h => zm_extend (h.mono fun x M1 ⟨hl, q⟩ => ⟨hl, q.mono fun y M2 ⟨j, ws, w, M3, e1, e2, e3, φ⟩ => by
    unfold extV at e3
    split at e3
    · rename_i ds hd
      split at e3
      · cases e3; exact ⟨j, ws, ds, e1, e2, lstD_ok hd, by assumption, φ⟩
      · cases e3
    · cases e3⟩) sy) h1 h2
/-- xs.index(e) of flat data -/
def idxF (ds : List PyData) (d : PyData) : Option Nat := ds.findIdx? fun z => PyData.eqv z d
def idxV (x y : W) (M : MS) : Option (W × MS) := match x, y with
  | .d (.list ds), .d d => if flatD d && ds.all flatD then (idxF ds d).map fun j => (.d (.int (j : Nat)), M) else none
  | _, _ => none
theorem se_index {f1 f2 : EF} (h1 : SE X o f1) (h2 : SE X e f2) (sy : MSyn X o "index" e [] apos cpos := by exact ⟨by rfl, by rfl, by rfl, by rfl, by rfl⟩) : SE X (.Call (.Attribute o "index" apos) [e] [] cpos) (binE idxV (onlyE f1) (onlyE f2)) := fun Γ M => by
  have q1 := h1 Γ M
  unfold binE onlyE
  cases e1 : f1 Γ M with
  | bad => exact .bad
  | ex _ _ => exact .bad
  | ok x M1 =>
    rw [e1] at q1
    dsimp only
    rw [bind_ok]
    have q2 := h2 Γ M1
    cases e2 : f2 Γ M1 with
    | bad => exact .bad
    | ex _ _ => exact .bad
    | ok y M2 =>
      rw [e2] at q2
      dsimp only
      rw [bind_ok]
      cases eo : idxV x y M2 with
      | none => exact .bad
      | some r =>
        obtain ⟨w, M3⟩ := r
        unfold idxV at eo
        split at eo
        · rename_i ds d
          split at eo
          · rename_i hf
            obtain ⟨f1, f2⟩ := Bool.and_eq_true_iff.mp hf
            unfold idxF at eo
            cases ej : ds.findIdx? (fun z => PyData.eqv z d) with
            | none => rw [ej] at eo; cases eo
            | some j =>
              rw [ej] at eo
              cases eo
              obtain ⟨hj, hz, hn⟩ := List.findIdx?_eq_some_iff_getElem.mp ej
              exact .of (zm_index (q1.ze ⟨ds, rfl, q2.ze ⟨d, j, ds[j], rfl, f1, f2, List.getElem?_eq_getElem hj, hz, fun m z' hm hz' => by
                obtain ⟨hm2, e3⟩ := List.getElem?_eq_some_iff.mp hz'
                have := hn m hm
                rw [e3] at this
                simpa using this, rfl, rfl⟩⟩) sy)
          · cases eo
        · cases eo
/-! ### sorted -/
def intsD : List PyData → Option (List Int)
  | [] => some []
  | .int i :: r => (intsD r).map fun l => i :: l
  | _ => none
def strsD : List PyData → Option (List Str)
  | [] => some []
  | .str i :: r => (strsD r).map fun l => i :: l
  | _ => none
@[simp] theorem intsD_map : ∀ ns : List Int, intsD (ns.map .int) = some ns
  | [] => rfl
  | n :: ns => by rw [List.map_cons, intsD, intsD_map ns]; rfl
@[simp] theorem strsD_map : ∀ ns : List Str, strsD (ns.map .str) = some ns
  | [] => rfl
  | n :: ns => by rw [List.map_cons, strsD, strsD_map ns]; rfl
theorem intsD_ok : ∀ {ds : List PyData} {ns : List Int}, intsD ds = some ns → ds = ns.map .int
  | [], _, h => by cases h; rfl
  | d :: ds, ns, h => by
    cases d with
    | int i =>
      rw [intsD] at h
      cases e : intsD ds with
      | none => rw [e] at h; cases h
      | some l => rw [e] at h; cases h; rw [intsD_ok e]; rfl
    | _ => simp [intsD] at h
theorem strsD_ok : ∀ {ds : List PyData} {ns : List Str}, strsD ds = some ns → ds = ns.map .str
  | [], _, h => by cases h; rfl
  | d :: ds, ns, h => by
    cases d with
    | str i =>
      rw [strsD] at h
      cases e : strsD ds with
      | none => rw [e] at h; cases h
      | some l => rw [e] at h; cases h; rw [strsD_ok e]; rfl
    | _ => simp [strsD] at h
def sortD (ds : List PyData) : Option (List PyData) := match intsD ds with
  | some ns => some ((sortI ns).map .int)
  | none => match strsD ds with
    | some ss => if ss.length < 64 then some ((sortS ss).map .str) else none
    | none => none
@[simp] theorem sortD_ints (ns : List Int) : sortD (ns.map .int) = some ((sortI ns).map .int) := by unfold sortD; rw [intsD_map]
theorem sortD_strs {ss : List Str} (h : ss.length < 64) : sortD (ss.map .str) = some ((sortS ss).map .str) := by
  unfold sortD
  cases ss with
  | nil =>
    rw [show intsD (([] : List Str).map PyData.str) = some [] from rfl]
    show some ((sortI []).map PyData.int) = _
    simp [sortI, sortS]
  | cons s ss =>
    rw [show intsD ((s :: ss).map PyData.str) = none from rfl, strsD_map]
    dsimp only
    rw [if_pos h]
def sortV (x : W) (M : MS) : Option (W × MS) := (lstD M x).bind fun ds => (sortD ds).map fun r => (.d (.list r), M)
theorem lst_nt {y : W} {M : MS} {ds : List PyData} (h : LstW y M ds) : AllW y M ds ∧ ∀ ds', y ≠ .d (.tuple ds') := by
  rcases h with rfl | ⟨j, rfl, hm⟩
  · exact ⟨.inl rfl, fun _ z => by cases z⟩
  · exact ⟨.inr (.inr ⟨j, rfl, hm⟩), fun _ z => by cases z⟩
theorem se_sorted {g : EF} (hm : X.mg "sorted" = none) (h : SE X e g) (hg : Gl X "sorted" := by rfl) (sy : CSyn X e [] pos := by exact ⟨by rfl, by rfl⟩) : SE X (.Call (.Name "sorted" p) [e] [] pos) (unE sortV g) := fun Γ M =>
  se_b1 (biB hm bt_sorted hg sy) sy (fun Φ h => zk_sorted hm (h.mono fun x M1 ⟨w, M3, q, φ⟩ => by
    unfold sortV at q
    cases e0 : lstD M1 x with
    | none => rw [e0] at q; cases q
    | some ds =>
      rw [e0] at q
      have q : (sortD ds).map (fun r => (W.d (.list r), M1)) = some (w, M3) := q
      obtain ⟨al, nt⟩ := lst_nt (lstD_ok e0)
      unfold sortD at q
      cases e1 : intsD ds with
      | some ns => rw [e1] at q; cases q; exact .inl ⟨ns, by rw [← intsD_ok e1]; exact al, nt, φ⟩
      | none =>
        rw [e1] at q
        cases e2 : strsD ds with
        | none => rw [e2] at q; cases q
        | some ss =>
          rw [e2] at q
          dsimp only at q
          split at q
          · cases q; exact .inr ⟨ss, by rw [← strsD_ok e2]; exact al, nt, by assumption, φ⟩
          · cases q) hg sy) (h Γ M)
/-- sorted(..) of whole numbers that is to be changed -/
def sortMV (x : W) (M : MS) : Option (W × MS) := (lstD M x).bind fun ds => (intsD ds).map fun ns => (.m M.length, M ++ [.lst (((sortI ns).map PyData.int).map .d)])
theorem se_sortedM {g : EF} (hm : X.mg "sorted" = none) (h : SE X e g) (hg : Gl X "sorted" := by rfl) (sy : CSyn X e [] pos := by exact ⟨by rfl, by rfl⟩) : SE X (.Call (.Name "sorted" p) [e] [] pos) (unE sortMV g) := fun Γ M =>
  se_b1 (biB hm bt_sorted hg sy) sy (fun Φ h => zk_sortedM hm (h.mono fun x M1 ⟨w, M3, q, φ⟩ => by
    unfold sortMV at q
    cases e0 : lstD M1 x with
    | none => rw [e0] at q; cases q
    | some ds =>
      rw [e0] at q
      have q : (intsD ds).map (fun ns => (W.m M1.length, M1 ++ [MO.lst (((sortI ns).map PyData.int).map .d)])) = some (w, M3) := q
      obtain ⟨al, nt⟩ := lst_nt (lstD_ok e0)
      cases e1 : intsD ds with
      | none => rw [e1] at q; cases q
      | some ns => rw [e1] at q; cases q; exact ⟨ns, by rw [← intsD_ok e1]; exact al, nt, φ⟩) hg sy) (h Γ M)
/-- sorted of a dict's names -/
def keysS' : List (Key × W) → Option (List Str)
  | [] => some []
  | (.inr s, _) :: r => (keysS' r).map fun l => s :: l
  | _ => none
theorem keysS_ok : ∀ {ks : List (Key × W)} {ss : List Str}, keysS' ks = some ss → ks.map (·.1) = ss.map Sum.inr
  | [], _, h => by cases h; rfl
  | (k, w) :: ks, ss, h => by
    cases k with
    | inl i => simp [keysS'] at h
    | inr s =>
      rw [keysS'] at h
      cases e : keysS' ks with
      | none => rw [e] at h; cases h
      | some l => rw [e] at h; cases h; rw [List.map_cons, List.map_cons, keysS_ok e]
def dicW0 (M : MS) : W → Option (List (Key × W))
  | .d (.dict l) => (unkey l).map fun r => r.map fun q => (q.1, .d q.2)
  | .m k => match M[k]? with
    | some (.dic ks) => some ks
    | _ => none
  | _ => none
def sortKV (x : W) (M : MS) : Option (W × MS) := ((dicW0 M x).bind keysS').bind fun ss => if ss.length < 64 then some (.d (.list ((sortS ss).map .str)), M) else none
theorem se_sortedD {g : EF} (hm : X.mg "sorted" = none) (hc : X.calm = true) (h : SE X e g) (hg : Gl X "sorted" := by rfl) (sy : CSyn X e [] pos := by exact ⟨by rfl, by rfl⟩) : SE X (.Call (.Name "sorted" p) [e] [] pos) (unE sortKV g) := fun Γ M =>
  se_b1 (biB hm bt_sorted hg sy) sy (fun Φ h => zk_sortedD hm hc (h.mono fun x M1 ⟨w, M3, q, φ⟩ => by
    unfold sortKV at q
    cases e0 : dicW0 M1 x with
    | none => rw [e0] at q; cases q
    | some ks =>
      rw [e0] at q
      cases e1 : keysS' ks with
      | none => rw [show (some ks).bind keysS' = none from e1] at q; cases q
      | some ss =>
        rw [show (some ks).bind keysS' = some ss from e1] at q
        have q : (if ss.length < 64 then some (W.d (.list ((sortS ss).map .str)), M1) else none) = some (w, M3) := q
        split at q
        · cases q
          refine ⟨ss, ?_, by assumption, φ⟩
          cases x with
          | d y =>
            cases y with
            | dict l =>
              change (unkey l).map _ = _ at e0
              cases e2 : unkey l with
              | none => rw [e2] at e0; cases e0
              | some r =>
                rw [e2] at e0
                cases e0
                refine .inl ⟨r, by rw [unkey_ok e2]; rfl, ?_⟩
                have := keysS_ok e1
                rw [List.map_map] at this
                exact this
            | _ => cases e0
          | m j =>
            unfold dicW0 at e0
            dsimp only at e0
            split at e0
            · cases e0; exact .inr ⟨j, _, rfl, by assumption, keysS_ok e1⟩
            · cases e0
        · cases q) hg sy) (h Γ M)
/-! ### isinstance, all, any, sum -/
def isiV (T : String) (x : W) (M : MS) : Option (W × MS) := match x with
  | .d d => some (.d (.bool (isTy (tyD d) T)), M)
  | _ => none
theorem se_isi {n : Str} {T : String} {p' : Pos} {g : EF} (hm : X.mg "isinstance" = none) (hn : X.mg n = none) (hb : bootBuiltins n = some (.type T)) (hT : T = "int" ∨ T = "bool" ∨ T = "str" ∨ T = "tuple" ∨ T = "list" ∨ T = "dict") (h : SE X e g)
    (hg : Gl X "isinstance" := by rfl) (hg2 : Gl X n := by rfl) (sy : CSyn X e [.Name n p'] pos := by exact ⟨by rfl, by rfl⟩) (sy2 : CSyn X (.Name n p') [] pos := by exact ⟨by rfl, by rfl⟩)
    (hnn : n ≠ "__name__" := by decide) (hdb : (n == ("__debug__" : Str)) = false := by decide) : SE X (.Call (.Name "isinstance" p) [e, .Name n p'] [] pos) (unE (isiV T) g) := fun Γ M =>
  sr_one (op := isiV T) (fun σ H Q h => (biB hm bt_isinstance hg sy : BiEx X "isinstance" p e [.Name n p'] pos) σ H Q (w_a (pa_cons pe_w pa_w sy.star) (h.mono fun _ _ q => False.elim q))) (fun Φ h => zk_isi hm hn hb hT (h.mono fun x M1 ⟨w, M3, q, φ⟩ => by
    unfold isiV at q
    split at q
    · cases q; exact ⟨_, rfl, φ⟩
    · cases q) hg hg2 sy sy2 hnn hdb) (h Γ M)
def bolsD : List PyData → Option (List Bool)
  | [] => some []
  | .bool i :: r => (bolsD r).map fun l => i :: l
  | _ => none
@[simp] theorem bolsD_map : ∀ ns : List Bool, bolsD (ns.map .bool) = some ns
  | [] => rfl
  | n :: ns => by rw [List.map_cons, bolsD, bolsD_map ns]; rfl
theorem bolsD_ok : ∀ {ds : List PyData} {ns : List Bool}, bolsD ds = some ns → ds = ns.map .bool
  | [], _, h => by cases h; rfl
  | d :: ds, ns, h => by
    cases d with
    | bool i =>
      rw [bolsD] at h
      cases e : bolsD ds with
      | none => rw [e] at h; cases h
      | some l => rw [e] at h; cases h; rw [bolsD_ok e]; rfl
    | _ => simp [bolsD] at h
def listW : W → Option (List PyData)
  | .d (.list ds) => some ds
  | _ => none
theorem listW_ok {w : W} {ds : List PyData} (h : listW w = some ds) : w = .d (.list ds) := by
  unfold listW at h
  split at h
  · cases h; rfl
  · cases h
@[simp] theorem listW_l (ds : List PyData) : listW (.d (.list ds)) = some ds := rfl
def allV (x : W) (M : MS) : Option (W × MS) := ((listW x).bind bolsD).map fun bs => (.d (.bool (bs.all id)), M)
def anyV (x : W) (M : MS) : Option (W × MS) := ((listW x).bind bolsD).map fun bs => (.d (.bool (bs.any id)), M)
def sumV (x : W) (M : MS) : Option (W × MS) := ((listW x).bind intsD).map fun bs => (.d (.int bs.sum), M)
theorem se_all {g : EF} (hm : X.mg "all" = none) (hc : X.calm = true) (h : SE X e g) (hg : Gl X "all" := by rfl) (sy : CSyn X e [] pos := by exact ⟨by rfl, by rfl⟩) : SE X (.Call (.Name "all" p) [e] [] pos) (unE allV g) := fun Γ M =>
  se_b1 (biB hm bt_all hg sy) sy (fun Φ h => zk_all hm hc (h.mono fun x M1 ⟨w, M3, q, φ⟩ => by
    unfold allV at q
    cases e0 : listW x with
    | none => rw [e0] at q; cases q
    | some ds =>
      rw [e0] at q
      cases e1 : bolsD ds with
      | none => rw [show (some ds).bind bolsD = none from e1] at q; cases q
      | some bs => rw [show (some ds).bind bolsD = some bs from e1] at q; cases q; exact ⟨bs, by rw [listW_ok e0, bolsD_ok e1], φ⟩) hg sy) (h Γ M)
theorem se_any {g : EF} (hm : X.mg "any" = none) (hc : X.calm = true) (h : SE X e g) (hg : Gl X "any" := by rfl) (sy : CSyn X e [] pos := by exact ⟨by rfl, by rfl⟩) : SE X (.Call (.Name "any" p) [e] [] pos) (unE anyV g) := fun Γ M =>
  se_b1 (biB hm bt_any hg sy) sy (fun Φ h => zk_any hm hc (h.mono fun x M1 ⟨w, M3, q, φ⟩ => by
    unfold anyV at q
    cases e0 : listW x with
    | none => rw [e0] at q; cases q
    | some ds =>
      rw [e0] at q
      cases e1 : bolsD ds with
      | none => rw [show (some ds).bind bolsD = none from e1] at q; cases q
      | some bs => rw [show (some ds).bind bolsD = some bs from e1] at q; cases q; exact ⟨bs, by rw [listW_ok e0, bolsD_ok e1], φ⟩) hg sy) (h Γ M)
theorem se_sum {g : EF} (hm : X.mg "sum" = none) (hc : X.calm = true) (h : SE X e g) (hg : Gl X "sum" := by rfl) (sy : CSyn X e [] pos := by exact ⟨by rfl, by rfl⟩) : SE X (.Call (.Name "sum" p) [e] [] pos) (unE sumV g) := fun Γ M =>
  se_b1 (biB hm bt_sum hg sy) sy (fun Φ h => zk_sum hm hc (h.mono fun x M1 ⟨w, M3, q, φ⟩ => by
    unfold sumV at q
    cases e0 : listW x with
    | none => rw [e0] at q; cases q
    | some ds =>
      rw [e0] at q
      cases e1 : intsD ds with
      | none => rw [show (some ds).bind intsD = none from e1] at q; cases q
      | some bs => rw [show (some ds).bind intsD = some bs from e1] at q; cases q; exact ⟨bs, by rw [listW_ok e0, intsD_ok e1], φ⟩) hg sy) (h Γ M)
/-! ### dicts -/
theorem se_dnew : SE X (.Dict [] [] pos) (fun _ M => .ok (.m M.length) (M ++ [.dic []])) := fun Γ M => .of (ze_dnew ⟨rfl, rfl⟩)
theorem se_dnil : SE X (.Dict [] [] pos) (kE (.dict [])) := fun Γ M => .of (ze_dnil ⟨rfl, rfl⟩)
def nodupS (ss : List Str) : Bool := decide ss.Nodup
def dzV (x y : W) (M : MS) : Option (W × MS) := match x, y with
  | .d (.list ks), .d (.tuple ds) => (match strsD ks with
    | some ss => if ss.length = ds.length ∧ ss.Nodup then some (.m M.length, M ++ [.dic (List.zip (keysS ss) (ds.map .d))]) else none
    | none => none)
  | _, _ => none
theorem se_dictZip {f1 f2 : EF} (hc : X.calm = true) (hm : X.mg "dict" = none) (hm2 : X.mg "zip" = none) (h1 : SE X e f1) (h2 : SE X f f2) (hg : Gl X "dict" := by rfl) (hg2 : Gl X "zip" := by rfl)
    (hs : starEach [e, f] X.env = (false, eval e X.env) :: starEach [f] X.env := by rfl) (hs2 : starEach [f] X.env = (false, eval f X.env) :: starEach [] X.env := by rfl)
    (hpl : (backTo pos2 (starEach [f] X.env)).any (·.1) = false := by rfl) (na : starEach [.Call (.Name "zip" p2) [e, f] [] pos2] X.env = (false, eval (.Call (.Name "zip" p2) [e, f] [] pos2) X.env) :: starEach [] X.env := by rfl) :
    SE X (.Call (.Name "dict" p) [.Call (.Name "zip" p2) [e, f] [] pos2] [] pos) (binE dzV (onlyE f1) (onlyE f2)) := fun Γ M => by
  have q1 := h1 Γ M
  unfold binE onlyE
  cases e1 : f1 Γ M with
  | bad => exact .bad
  | ex _ _ => exact .bad
  | ok x M1 =>
    rw [e1] at q1
    dsimp only
    rw [bind_ok]
    have q2 := h2 Γ M1
    cases e2 : f2 Γ M1 with
    | bad => exact .bad
    | ex _ _ => exact .bad
    | ok y M2 =>
      rw [e2] at q2
      dsimp only
      rw [bind_ok]
      cases eo : dzV x y M2 with
      | none => exact .bad
      | some r =>
        obtain ⟨w, M3⟩ := r
        unfold dzV at eo
        split at eo
        · rename_i ks ds
          cases es : strsD ks with
          | none => rw [es] at eo; cases eo
          | some ss =>
            rw [es] at eo
            dsimp only at eo
            split at eo
            · rename_i hb
              cases eo
              exact .of (ze_dictZip hc hm hm2 (q1.ze (q2.ze ⟨ss, ds, by rw [strsD_ok es], rfl, hb.1, hb.2, rfl, rfl⟩)) hg hg2 hs hs2 hpl na)
            · cases eo
        · cases eo
/-! ### sorted(set(..)), sorted({..}) -/
def riseI (ns : List Int) : List Int := (sortI ns).eraseDups
theorem riseI_mem {ns : List Int} {k : Int} : k ∈ riseI ns ↔ k ∈ ns := by
  unfold riseI
  rw [List.mem_eraseDups]
  exact (sortI_perm ns).mem_iff
theorem riseI_pw (ns : List Int) : (riseI ns).Pairwise (· < ·) := by
  unfold riseI
  have gen : ∀ (n : Nat) (l : List Int), l.length ≤ n → l.Pairwise (· ≤ ·) → l.eraseDups.Pairwise (· < ·) := by
    intro n
    induction n with
    | zero => intro l hl _; cases l with
      | nil => simp
      | cons _ _ => simp at hl
    | succ n ih =>
      intro l hl hp
      cases l with
      | nil => simp
      | cons x xs =>
        rw [List.eraseDups_cons]
        obtain ⟨h1, h2⟩ := List.pairwise_cons.mp hp
        refine List.pairwise_cons.mpr ⟨fun y hy => ?_, ih _ ?_ (h2.sublist (List.filter_sublist))⟩
        · rw [List.mem_eraseDups] at hy
          obtain ⟨m1, m2⟩ := List.mem_filter.mp hy
          have := h1 y m1
          have : y ≠ x := by simpa using m2
          omega
        · have := List.length_filter_le (fun b => !b == x) xs
          simp at hl
          omega
  exact gen _ _ (Nat.le_refl _) (sortI_pw ns)
theorem riseI_of {ns ks : List Int} (h : ks.Pairwise (· < ·)) (m : ∀ k, k ∈ ks ↔ k ∈ ns) : ks = riseI ns := rise_eq h (riseI_pw ns) fun k => (m k).trans riseI_mem.symm
def risV (x : W) (M : MS) : Option (W × MS) := ((listW x).bind intsD).bind fun ns => if ns.length < 64 then some (.d (.list ((riseI ns).map .int)), M) else none
theorem se_sortedSet {g : EF} (bs : X.mg "sorted" = none) (bt : X.mg "set" = none) (hc : X.calm = true) (h : SE X e g) (hg : Gl X "sorted" := by rfl) (hg2 : Gl X "set" := by rfl) (sy : CSyn X (.Call (.Name "set" p2) [e] [] pos2) [] pos := by exact ⟨by rfl, by rfl⟩) (sy2 : CSyn X e [] pos2 := by exact ⟨by rfl, by rfl⟩) :
    SE X (.Call (.Name "sorted" p) [.Call (.Name "set" p2) [e] [] pos2] [] pos) (unE risV (onlyE g)) := fun Γ M => by
  have q1 := h Γ M
  unfold unE onlyE
  cases e1 : g Γ M with
  | bad => exact .bad
  | ex _ _ => exact .bad
  | ok x M1 =>
    rw [e1] at q1
    dsimp only
    rw [bind_ok]
    unfold risV
    cases e0 : listW x with
    | none => exact .bad
    | some ds =>
      cases e2 : intsD ds with
      | none => rw [show (some ds).bind intsD = none from e2]; exact .bad
      | some ns =>
        rw [show (some ds).bind intsD = some ns from e2]
        show SR X _ Γ M (Res.of (if ns.length < 64 then some (.d (.list ((riseI ns).map .int)), M1) else none))
        split
        · exact .of (zk_sortedSet bs bt hc (q1.ze ⟨ns, by rw [listW_ok e0, intsD_ok e2], by assumption, fun ks pw hm => by rw [riseI_of pw hm]; exact ⟨rfl, rfl⟩⟩) hg hg2 sy sy2)
        · exact .bad
def scV (ws : List W) (M : MS) : Option (W × MS) := ((datsW ws).bind intsD).bind fun ns => some (.d (.list ((riseI ns).map .int)), M)
def scMV (ws : List W) (M : MS) : Option (W × MS) := ((datsW ws).bind intsD).bind fun ns => some (.m M.length, M ++ [.lst (((riseI ns).map PyData.int).map .d)])
def scE (mk : List W → MS → Option (W × MS)) (vs : List Nat) (i : IF) (tg : TGF) (t : TF) (f : EF) : EF := fun Γ M => match i Γ M with
  | .ok ds M1 => if ds.length < 64 then (match lcL tg t f (wipeG Γ vs) ds M1 with
    | .ok ws M2 => Res.of (mk ws M2)
    | _ => .bad) else .bad
  | _ => .bad
end
end Z

/-! S11: sorted({..}); lengths of arguments. -/
namespace Z
open PySem PySem.Spec PyProof.Rows L2
def LenA (g : AF) (n : Nat) : Prop := ∀ Γ M ws M1, g Γ M = .ok ws M1 → ws.length = n
theorem lenA_nil : LenA nilA 0 := fun Γ M ws M1 h => by cases h; rfl
theorem lenA_cons {f : EF} {g : AF} {n : Nat} (h : LenA g n) : LenA (consA f g) (n + 1) := fun Γ M ws M1 e => by
  unfold consA at e
  cases e1 : f Γ M with
  | bad => rw [e1] at e; cases e
  | ex _ _ => rw [e1] at e; cases e
  | ok x M2 =>
    rw [e1, bind_ok] at e
    cases e2 : g Γ M2 with
    | bad => rw [e2] at e; cases e
    | ex _ _ => rw [e2] at e; cases e
    | ok xs M3 =>
      rw [e2, bind_ok] at e
      cases e
      rw [List.length_cons, h _ _ _ _ e2]
section
variable {X : Cx} {e a b c o f tg it elt : Expr} {es ifs : List Expr} {scope : Scope} {pos p pos2 p2 apos cpos : Pos} {Γ : GS} {M : MS} {k : Nat} {vs : List Nat}
/-- as lcT_of, the lists on the way told -/
theorem lcT_of2 {g : TGF} {t : TF} {f : EF} (hg : ∀ B, SGB (bk X scope B) vs tg g) (ht : ∀ B, STs (bk X scope B) ifs t) (hf : ∀ B, SE (bk X scope B) elt f) {ds : List PyData} {M1 M2 : MS} {ws : List W} {Φ : List W → MS → Prop}
    (h : lcL g t f (wipeG Γ vs) ds M1 = .ok ws M2) (hl : ds.length < sizeLine) (φ : Φ ws M2) : ∃ I, LcT X vs tg elt ifs scope ds Γ M1 I Φ ∧ ∀ i acc M', I i acc M' → ∃ ws', acc ++ ws' = ws := by
  refine ⟨fun i acc M' => acc.length ≤ i ∧ ∃ ws', lcL g t f (wipeG Γ vs) (ds.drop i) M' = .ok ws' M2 ∧ acc ++ ws' = ws, ⟨⟨Nat.le_refl _, ws, by rw [List.drop_zero]; exact h, rfl⟩, fun i d acc M' hd hI B => ?_, fun acc M' hI => ?_⟩, fun i acc M' hI => let ⟨_, ws', _, q⟩ := hI; ⟨ws', q⟩⟩
  · obtain ⟨ha, ws', hw, he⟩ := hI
    have hi : i < ds.length := (List.getElem?_eq_some_iff.mp hd).1
    have ed : ds.drop i = d :: ds.drop (i + 1) := by
      rw [List.drop_eq_getElem_cons hi]
      congr 1
      exact (List.getElem?_eq_some_iff.mp hd).2
    rw [ed, lcL] at hw
    cases eg : g (.d d) (wipeG Γ vs) M' with
    | none => rw [eg] at hw; cases hw
    | some pr =>
      obtain ⟨Γ1, M3⟩ := pr
      rw [eg] at hw
      dsimp only at hw
      refine hg B _ _ _ _ _ eg _ ?_
      intro B
      cases et : t Γ1 M3 with
      | bad => rw [et] at hw; cases hw
      | ex _ _ => rw [et] at hw; cases hw
      | ok bb M4 =>
        rw [et] at hw
        refine ht B Γ1 M3 bb M4 et _ ?_
        cases bb with
        | false =>
          dsimp only at hw
          rw [if_neg Bool.false_ne_true]
          exact ⟨Nat.le_succ_of_le ha, ws', hw, he⟩
        | true =>
          dsimp only at hw
          rw [if_pos rfl]
          intro B
          have q := hf B Γ1 M4
          cases ef : f Γ1 M4 with
          | bad => rw [ef] at hw; cases hw
          | ex _ _ => rw [ef] at hw; cases hw
          | ok w M5 =>
            rw [ef] at hw q
            dsimp only at hw
            refine q.ze ?_
            cases er : lcL g t f (wipeG Γ vs) (ds.drop (i + 1)) M5 with
            | bad => rw [er] at hw; cases hw
            | ex _ _ => rw [er] at hw; cases hw
            | ok ws2 M6 =>
              rw [er] at hw
              cases hw
              exact ⟨Nat.lt_of_le_of_lt (Nat.le_trans ha (Nat.le_of_lt hi)) hl, by rw [List.length_append]; show acc.length + 1 ≤ i + 1; omega, ws2, rfl, by rw [List.append_assoc]; exact he⟩
  · obtain ⟨ha, ws', hw, he⟩ := hI
    rw [List.drop_length, lcL] at hw
    cases hw
    rw [List.append_nil] at he
    rw [he]; exact φ
theorem lcL_len {g : TGF} {t : TF} {f : EF} {Γ0 : GS} : ∀ {ds : List PyData} {M M' : MS} {ws : List W}, lcL g t f Γ0 ds M = .ok ws M' → ws.length ≤ ds.length
  | [], _, _, _, h => by cases h; exact Nat.le_refl _
  | d :: ds, M, M', ws, h => by
    rw [lcL] at h
    split at h
    · cases h
    · split at h
      · split at h
        · rename_i w M3 _
          cases e : lcL g t f Γ0 ds M3 with
          | bad => rw [e] at h; cases h
          | ex _ _ => rw [e] at h; cases h
          | ok ws2 M5 =>
            rw [e] at h
            cases h
            have := lcL_len e
            simp; omega
        · cases h
      · have := lcL_len h
        simp; omega
      · cases h
theorem ints_pre {acc ws' : List W} {ns : List Int} (h : acc ++ ws' = (ns.map PyData.int).map W.d) : ∃ ks : List Int, acc = ks.map (fun k => .d (.int k)) ∧ ks.length ≤ ns.length := by
  refine ⟨ns.take acc.length, ?_, by rw [List.length_take]; omega⟩
  have := congrArg (List.take acc.length) h
  rw [List.take_left' rfl, List.map_map] at this
  rw [List.map_take]
  exact this
theorem sc_core {mk : List W → MS → Option (W × MS)} {own : List (Str × Nat)} {i : IF} {g : TGF} {t : TF} {f1 : EF} (hi : SI X tg it i) (hg : ∀ B, SGB (bk X scope B) (own.map (·.2)) tg g) (ht : ∀ B, STs (bk X scope B) ifs t) (hf : ∀ B, SE (bk X scope B) elt f1)
    (ok : ∀ (ds : List PyData) (M1 : MS) (ns : List Int) (M2 : MS), i Γ M = .ok ds M1 → ds.length < 64 → lcL g t f1 (wipeG Γ (own.map (·.2))) ds M1 = .ok ((ns.map PyData.int).map .d) M2 → ∀ w M3, mk ((ns.map PyData.int).map .d) M2 = some (w, M3) → SR X e Γ M (.ok w M3)) (mi : ∀ ws M r, mk ws M = some r → ∃ ns : List Int, ws = (ns.map PyData.int).map .d) : SR X e Γ M (scE mk (own.map (·.2)) i g t f1 Γ M) := by
  unfold scE
  cases e1 : i Γ M with
  | bad => exact .bad
  | ex _ _ => exact .bad
  | ok ds M1 =>
    dsimp only
    split
    · rename_i hl
      cases e2 : lcL g t f1 (wipeG Γ (own.map (·.2))) ds M1 with
      | bad => exact .bad
      | ex _ _ => exact .bad
      | ok ws M2 =>
        dsimp only
        cases e3 : mk ws M2 with
        | none => exact .bad
        | some r =>
          obtain ⟨w, M3⟩ := r
          obtain ⟨ns, rfl⟩ := mi _ _ _ e3
          exact ok ds M1 ns M2 e1 hl e2 w M3 e3
    · exact .bad
theorem scV_ints {ws : List W} {M : MS} {r : W × MS} (h : scV ws M = some r) : ∃ ns : List Int, ws = (ns.map PyData.int).map .d := by
  unfold scV at h
  cases e : datsW ws with
  | none => rw [e] at h; cases h
  | some ds =>
    rw [e] at h
    cases e2 : intsD ds with
    | none => rw [show (some ds).bind intsD = none from e2] at h; cases h
    | some ns => exact ⟨ns, by rw [← intsD_ok e2, ← datsW_ok e]⟩
theorem scMV_ints {ws : List W} {M : MS} {r : W × MS} (h : scMV ws M = some r) : ∃ ns : List Int, ws = (ns.map PyData.int).map .d := by
  unfold scMV at h
  cases e : datsW ws with
  | none => rw [e] at h; cases h
  | some ds =>
    rw [e] at h
    cases e2 : intsD ds with
    | none => rw [show (some ds).bind intsD = none from e2] at h; cases h
    | some ns => exact ⟨ns, by rw [← intsD_ok e2, ← datsW_ok e]⟩
@[simp] theorem scV_map (ns : List Int) (M : MS) : scV ((ns.map PyData.int).map .d) M = some (.d (.list ((riseI ns).map .int)), M) := by
  unfold scV
  rw [datsW_map, show (some (ns.map PyData.int)).bind intsD = some ns from intsD_map ns]
  rfl
@[simp] theorem scMV_map (ns : List Int) (M : MS) : scMV ((ns.map PyData.int).map .d) M = some (.m M.length, M ++ [.lst (((riseI ns).map PyData.int).map .d)]) := by
  unfold scMV
  rw [datsW_map, show (some (ns.map PyData.int)).bind intsD = some ns from intsD_map ns]
  rfl
theorem ints_w {ks ns : List Int} (h : (ks.map PyData.int).map W.d = ns.map fun k => W.d (.int k)) : ns = ks := by
  rw [List.map_map] at h
  exact (ints_inj h).symm
theorem se_sortedSc {own : List (Str × Nat)} {i : IF} {g : TGF} {t : TF} {f1 : EF} (bs : X.mg "sorted" = none) (hc : X.calm = true) (hN : X.N.Nodup) (ok : BlkOk X.N X.env.scope scope own) (hi : SI X tg it i) (hg : ∀ B, SGB (bk X scope B) (own.map (·.2)) tg g) (ht : ∀ B, STs (bk X scope B) ifs t) (hf : ∀ B, SE (bk X scope B) elt f1)
    (hs : ∀ x, foldedSetIterable it X.env x = pure x := by intro _; rfl) (hgl : Gl X "sorted" := by rfl) (sy : CSyn X (.SetComp elt [⟨tg, it, ifs, 0⟩] scope pos2) [] pos := by exact ⟨by rfl, by rfl⟩) :
    SE X (.Call (.Name "sorted" p) [.SetComp elt [⟨tg, it, ifs, 0⟩] scope pos2] [] pos) (scE scV (own.map (·.2)) i g t f1) := fun Γ M =>
  sc_core hi hg ht hf (fun ds M1 ns M2 e1 hl e2 w M3 e3 => by
    rw [scV_map] at e3
    cases e3
    have q := hi Γ M
    rw [e1] at q
    have l2 : ns.length ≤ ds.length := by have := lcL_len e2; simpa using this
    obtain ⟨I, T, hI⟩ := lcT_of2 (Γ := Γ) hg ht hf e2 (by unfold sizeLine; omega) (Φ := fun acc M3 => ∀ ks : List Int, acc = ks.map (fun k => .d (.int k)) → RiseW ks fun ks' => (fun w' M'' => w' = W.d (.list ((riseI ns).map .int)) ∧ M'' = M2) (.d (.list (ks'.map .int))) M3) (fun ks hk ks' pw hm => by
      have := ints_w hk
      subst this
      rw [riseI_of pw hm]; exact ⟨rfl, rfl⟩)
    exact .of (zk_sortedSc bs hc hN ok (q _ ⟨I, T, fun i acc M4 hi => by
      obtain ⟨ws', hw⟩ := hI i acc M4 hi
      obtain ⟨ks, hk, hkl⟩ := ints_pre hw
      exact ⟨ks, hk, by omega⟩⟩) hs hgl sy)) (fun ws M r h => scV_ints h)
theorem se_sortedScM {own : List (Str × Nat)} {i : IF} {g : TGF} {t : TF} {f1 : EF} (bs : X.mg "sorted" = none) (hc : X.calm = true) (hN : X.N.Nodup) (ok : BlkOk X.N X.env.scope scope own) (hi : SI X tg it i) (hg : ∀ B, SGB (bk X scope B) (own.map (·.2)) tg g) (ht : ∀ B, STs (bk X scope B) ifs t) (hf : ∀ B, SE (bk X scope B) elt f1)
    (hs : ∀ x, foldedSetIterable it X.env x = pure x := by intro _; rfl) (hgl : Gl X "sorted" := by rfl) (sy : CSyn X (.SetComp elt [⟨tg, it, ifs, 0⟩] scope pos2) [] pos := by exact ⟨by rfl, by rfl⟩) :
    SE X (.Call (.Name "sorted" p) [.SetComp elt [⟨tg, it, ifs, 0⟩] scope pos2] [] pos) (scE scMV (own.map (·.2)) i g t f1) := fun Γ M =>
  sc_core hi hg ht hf (fun ds M1 ns M2 e1 hl e2 w M3 e3 => by
    rw [scMV_map] at e3
    cases e3
    have q := hi Γ M
    rw [e1] at q
    have l2 : ns.length ≤ ds.length := by have := lcL_len e2; simpa using this
    obtain ⟨I, T, hI⟩ := lcT_of2 (Γ := Γ) hg ht hf e2 (by unfold sizeLine; omega) (Φ := fun acc M3 => ∀ ks : List Int, acc = ks.map (fun k => .d (.int k)) → RiseW ks fun ks' => (fun w' M'' => w' = W.m M2.length ∧ M'' = M2 ++ [MO.lst (((riseI ns).map PyData.int).map .d)]) (.m M3.length) (M3 ++ [.lst ((ks'.map PyData.int).map .d)])) (fun ks hk ks' pw hm => by
      have := ints_w hk
      subst this
      rw [riseI_of pw hm]; exact ⟨rfl, rfl⟩)
    exact .of (zk_sortedScM bs hc hN ok (q _ ⟨I, T, fun i acc M4 hi => by
      obtain ⟨ws', hw⟩ := hI i acc M4 hi
      obtain ⟨ks, hk, hkl⟩ := ints_pre hw
      exact ⟨ks, hk, by omega⟩⟩) hs hgl sy)) (fun ws M r h => scMV_ints h)
end
end Z

/-! S12: small words for generated texts. -/
namespace Z
open PySem PySem.Spec PyProof.Rows L2
def dnewE : EF := fun _ M => .ok (.m M.length) (M ++ [.dic []])
theorem se_dnewE {X : Cx} {pos : Pos} : SE X (.Dict [] [] pos) dnewE := se_dnew
/-- the answer and all new cells stay as they are -/
def finI : FinF := fun _ w M => .ok w M
theorem finI_sound : FinSound finI := fun F0 ι0 H0 M0 F ι H M w v w' M' R0 E R r e => by
  cases e
  exact ⟨F, ι, M, w, E, R, r, rfl, rfl⟩
theorem finI_ex {M0 M M' : MS} {w : W} {x : Exc} : finI M0 w M = .ex x M' → False := fun e => by cases e
end Z

/-! S13: the end of a law over the S layer: the call behind the top where calls may let an exception out; a def's promise over heaps; the bag's maker; the law's start. -/
namespace Z
open PySem PySem.Spec PyProof.Rows L2
section
variable {P : Program} {w : World} {K : PySem.W.Frag} {mg mb : Str → Option Value} {s₁ : Shared} {a : Addr} {vs : List Value} {H : Hp}
/-- the law's call behind the top -/
theorem lawX {k : Nat} {fa : Addr} {fd : FuncData} {x : Str} {sp : Sp} {ns : List Int} (KX : K.In s₁.heap) (hm : s₁.heap.Ns mainGlobals mg) (hb : s₁.heap.Ns builtinsNs mb) (hbb : ∀ x : Str, x ≠ "__name__" → mb x = bootBuiltins x)
    (hlim : s₁.heap.NoLimit) (hg : s₁.gens = #[]) (sys : SysAt s₁.heap) (ha : s₁.heap.get? a = some { cls := .type "list", data := .seq vs.toArray }) (hi : IntsAre vs ns) (hl : ns.length ≤ sizeLine) (hr : RoomZ k callerA)
    (G : ∀ base : Heap, K.In base → base.Ns mainGlobals mg → (∃ o, base.get? sysModules = some o) → FnG ⟨P, w, K, mg, base⟩ (L2.CX P w) k fa fd [x] sp) (hbind : ∀ (s : Shared) (u : Value), BindsTo s fd ⟨[u], []⟩ [(x, u)])
    (hsp : ∀ H : Hp, SqL K H a (ns.map V.int) → sp [.ref a] H (fun v _ => v = .bl true) fun _ _ _ => False) :
    codeAny (model P w) callerA (.call (.ref fa) ⟨[.ref a], []⟩) (fun r s' => r = .ok (.ret (.bool true)) ∧ OldK s₁.heap s'.heap ∧ s'.os = s₁.os ∧ AllBare s'.gens) s₁ := by
  have rv := vals_ints hi
  have run : ∀ H : Hp, SqL K H a (ns.map V.int) → (∀ b u, H b = some u → b = a ∧ K.lookup a = none ∧ ∃ xs, u = .frz { cls := .type "list", data := .seq vs.toArray } (.lst xs)) → HOk P w H s₁.heap →
      codeAny (model P w) callerA (.call (.ref fa) ⟨[.ref a], []⟩) (fun r s' => r = .ok (.ret (.bool true)) ∧ OldK s₁.heap s'.heap ∧ s'.os = s₁.os ∧ AllBare s'.gens) s₁ := by
    intro H sq one hok
    obtain ⟨e0, k1, k2, k3⟩ := ground0 KX hm hb hbb hlim hg sys ha (fun b u e => ⟨(one b u e).1, (one b u e).2.1⟩) hok
    have c := (G _ k1 k2 k3).run callerA [] s₁ H ⟨[.ref a], []⟩ [.ref a] [.ref a] _ _ hr e0 (hbind s₁ _) (.cons rfl .nil) (hsp H sq)
    refine codeAny_mono c ?_
    rintro (e | fl) s' q
    · obtain ⟨_, _, _, _, _, _, _, _, _, _, _, _, z⟩ := q; exact z.elim
    · cases fl with
      | ret u =>
        obtain ⟨v, H', q1, q2, q3, q4, q5, q6⟩ := q
        subst q6
        obtain rfl : u = .bool true := q5
        refine ⟨rfl, OldK.of_keep fun b o e => ?_, q1, q2⟩
        cases eb : H b with
        | none => exact q3.keep b o e eb (fun z => by cases z) (fun z => by cases z)
        | some u =>
          obtain ⟨rfl, _, xs, rfl⟩ := one b u eb
          have before := (hok b _ eb).1
          have after := (q4 b _ (q3.frzs b _ _ eb)).1
          rw [e] at before
          rw [after, ← before]
      | next => exact q.elim
      | brk => exact q.elim
      | cont => exact q.elim
  cases hk : K.lookup a with
  | some o =>
    have e := KX a o hk
    rw [ha] at e
    cases e
    exact run (fun _ => none) (.inr ⟨_, vs.toArray, _, hk, rfl, rfl, rfl, by rw [List.size_toArray, hi.length]; exact hl, by simpa using rv⟩) (fun b u z => by cases z) fun b u z => by cases z
  | none =>
    have lk : ∀ b u, (if b = a then some (HO.frz { cls := .type "list", data := .seq vs.toArray } (.lst (ns.map V.int))) else none) = some u → b = a ∧ u = .frz { cls := .type "list", data := .seq vs.toArray } (.lst (ns.map V.int)) := fun b u z => by
      by_cases q : b = a
      · rw [if_pos q] at z; cases z; exact ⟨q, rfl⟩
      · rw [if_neg q] at z; cases z
    refine run (fun b => if b = a then some (.frz { cls := .type "list", data := .seq vs.toArray } (.lst (ns.map V.int))) else none) (.inl (.inr ⟨_, if_pos rfl⟩)) (fun b u z => ?_) fun b u z => ?_
    · obtain ⟨q1, q2⟩ := lk b u z
      exact ⟨q1, hk, _, q2⟩
    · obtain ⟨rfl, rfl⟩ := lk b u z
      exact ⟨ha, by rw [List.length_map]; exact hl, vs, _, rv, ha⟩
end
/-- a law of a script of whole numbers, by its def's promise -/
theorem walkX {l : PySem.W.OpenLaw} {n k : Nat} {q : Program} {loose : List Str} {XP : (Str → Option Value) → Heap → Prop} {d : DefRec} {x : Str} {hn1 : Nat} {fa : List He.Fa} {fn : List He.DefD}
    (hn : l.most = some n) (hn2 : n ≤ sizeLine) (hdf : d.params.defaults = []) (hr : RoomZ k callerA)
    (F : ∀ (w : World) (K : PySem.W.Frag) (mg : Str → Option Value) (f : Addr) (h : Heap), K.In h → He.SaysD fa fn K → h.Ns mainGlobals mg → mg d.name = some (.ref f) →
      ∃ (fd : FuncData) (sp : Sp), (∀ (s : Shared) (u : Value), BindsTo s fd ⟨[u], []⟩ [(x, u)]) ∧
        (∀ (H : Hp) (a : Addr) (ns : List Int), ns.length ≤ n → SqL K H a (ns.map V.int) → sp [.ref a] H (fun v _ => v = .bl true) fun _ _ _ => False) ∧
        ∀ base : Heap, K.In base → base.Ns mainGlobals mg → (∃ o, base.get? sysModules = some o) → FnG ⟨l.prog, w, K, mg, base⟩ (L2.CX l.prog w) k f fd [x] sp) :
    PySem.W.WalkO q loose XP (hookZ hn1 fa fn).says l.row.toRowW d [] (fun f vs => PySem.call f vs) := by
  refine Att.attach_call hn hdf fun w s₀ s₁ mg mb f o pm cd doc a vs ns G Y ho hd hcd hmg hobj hints hlen hg => ?_
  obtain ⟨⟨K, KX, c⟩, sys⟩ := Y
  obtain ⟨fd, sp, q1, q2, q3⟩ := F w K mg f _ KX c G.T.g hmg
  exact lawX KX G.T.g G.T.b G.T.builtins G.T.nolimit hg sys hobj hints (Nat.le_trans hlen hn2) hr q3 q1 fun H sq => q2 H a ns hlen sq
/-- THE RULE for a def, promised over heaps -/
theorem fg_ofX {T : Top} {x : Str} {st : Stmt} {N ps : List Str} {k : Nat} {f : Addr} {fd : FuncData} {sp : Sp} (F : Fun T.K x x st f fd) (Sc : FnScope N ps (defScope st)) (len : ∀ vs H Q E, sp vs H Q E → vs.length = ps.length)
    (body : ∀ (cdv : Value) (A : Around) (outer : List Env) (s : Shared) (H : Hp) (vs : List V) (Q : VK) (E : XK), RoomZ k (A.deeper (envOfC x (defScope st) s.heap.objs.size f cdv)) → sp vs H Q E →
      wSs (dcxX T x st N f cdv A outer s H E) (defBody st) { nx := fun _ H' => Q .non H', rt := Q } (L2.start N vs) H) : FnG T (L2.CX T.P T.w) (k + 1) f fd ps sp := by
  refine ⟨len, fun A outer s H args us vs Q E hr e0 hB r hsp => ?_⟩
  obtain ⟨oc, od, kV, doc, pm, an, cdv, ct, osl, rfl, lk, hcd⟩ := F.ex
  have KX : T.K.In s.heap := e0.mod.kin.keeps fun b o e => (e0.bs b o e).1
  have lim : s.heap.NoLimit := e0.mod.nolimit.keeps fun b o e => (e0.bs b o e).1
  have kinds : ∀ y ∈ ps.zip us, (defScope st).names.lookup y.1 = some .local ∨ ((defScope st).names.lookup y.1 = some .cell ∧ ((cellsFrom (s.heap.objs.size + 1) (defScope st).names []).lookup y.1).isSome = true) := by
    rintro ⟨n, v⟩ hy
    exact (Sc.par n (List.of_mem_zip hy).1).imp id fun q => ⟨q, PySem.W.cellsFrom_some _ _ _ (.inl q)⟩
  refine codeAny_call_function hr.r.depth (KX _ _ lk) rfl Sc.co Sc.gen rfl (PySem.W.codeRec_of KX hcd) (hB _ _ _ _ ?_)
  refine wpAny_newFunctionEnv_cells Sc.kind kinds fun env he s1 x' => ?_
  subst he
  refine ⟨lim.keeps x'.toInCall.keep, codeAny_func ?_⟩
  have b := body cdv A outer s H vs Q E (hr.deeper _) hsp
  have I : Inv (cxOf (L2.CX T.P T.w) T.P T.w T.K T.mg T.base N x (defScope st) f cdv A outer s H E) [] (L2.start N vs) H s1 := inv_start Sc hr.r.hd e0 (len _ _ _ _ hsp) r x'
  have fin : ∀ {σ' : St} {H' : Hp} {v : V} {u : Value} {s' : Shared}, Inv (dcxX T x st N f cdv A outer s H E) [] σ' H' s' → RelV v u → Q v H' → CE outer T.P T.w H s Q u s' :=
    fun J rv q => ⟨_, _, J.os, J.bare, J.base, J.hok, rv, q⟩
  refine wpAny_mono (b [] s1 (I.wish _)) (fun fl s' hs => ?_) fun e s' hs => hs
  cases fl with
  | ret u =>
    obtain ⟨v, σ', H', J, rv, q⟩ := hs
    exact fin J rv q
  | next =>
    obtain ⟨σ', H', J, q⟩ := hs
    exact fin (v := V.non) (u := Value.none) J rfl q
  | brk =>
    obtain ⟨_, _, _, q⟩ := hs
    exact False.elim q
  | cont =>
    obtain ⟨_, _, _, q⟩ := hs
    exact False.elim q
/-- the rest of a law's body, started with the bag alone -/
theorem law_restX {X : Cx} {st : List Stmt} {Γ : GS} {ns : List Int} {σ : St} {H : Hp} {p q : Addr} {Q : V → Hp → Prop} {g : SF} (h : SSs X st g) {M1 : MS} (eg : g Γ [bagO (bag0 ns)] = .rt (.d (.bool true)) M1)
    (np : p ≠ q) (hp : H p = some (.lst [.int 0, .int 1234567891, .int 0, .ref q])) (hq : H q = some (.lst ((ns.map absI).map V.int))) (hl : σ.length = Γ.length) (hs : σ[1]? = some (some (.ref p))) (hΓ : ∀ i w, Γ[i]? = some (some w) → i = 1 ∧ w = .m 0)
    (hQ : ∀ H', Q (.bl true) H') : wSs X st { nx := fun _ H' => Q .non H', rt := Q } σ H := by
  have nF : upd (fun _ => none) q (.lst ((ns.map absI).map V.int)) p = none := upd_ne np
  have R : Rep (upd (fun _ => none) q (.lst ((ns.map absI).map V.int))) H [p] [bagO (bag0 ns)] := by
    refine ⟨fun b x e => ?_, rfl, by simp, fun b hb => ?_, fun k a mo h1 h2 => ?_⟩
    · by_cases z : b = q
      · rw [z, upd_same] at e; cases e; rw [z]; exact hq
      · rw [upd_ne z] at e; cases e
    · rw [List.mem_singleton.mp hb]; exact ⟨_, hp⟩
    · cases k with
      | zero =>
        simp only [List.getElem?_cons_zero, Option.some.injEq] at h1 h2
        subst h1 h2
        refine .inr ⟨nF, _, hp, _, rfl, .cons (At.int 0) (.cons (At.int _) (.cons (At.int 0) (.cons ?_ .nil)))⟩
        exact At.lst upd_same .of_ints
      | succ k => simp at h1
  have S : Slots (upd (fun _ => none) q (.lst ((ns.map absI).map V.int))) [p] σ Γ := ⟨hl, fun i w e => by
    obtain ⟨rfl, rfl⟩ := hΓ i w e
    exact ⟨_, hs, RW.m rfl⟩⟩
  have hh := h Γ [bagO (bag0 ns)] _ [p] σ H R S
  rw [eg] at hh
  refine (hh trivial).mono ⟨?_, ?_, ?_, ?_⟩
  · rintro σ' H' ⟨_, _, _, _, _, _, _, q⟩
  · rintro v H' ⟨_, _, _, w, _, _, r, e1, e2⟩
    subst e1
    rw [At.bl_ r]
    exact hQ H'
  · rintro σ' H' ⟨_, _, _, _, _, _, _, q⟩
  · rintro σ' H' ⟨_, _, _, _, _, _, _, q⟩
end Z

/-! S14: the functions of defs evaluated step by step: what simp needs (each step's parts first, nothing under a binder). -/
namespace Z
open PySem PySem.Spec PyProof.Rows L2
section
variable {Γ : GS} {M M1 M2 : MS} {f g h : EF} {t u : TF} {x y w : W} {e : Exc}
@[simp] theorem getG_z {o : W} : getG (some o :: Γ) 0 M = .ok o M := rfl
@[simp] theorem getG_s {o : Option W} {n : Nat} : getG (o :: Γ) (n + 1) M = getG Γ n M := rfl
@[simp] theorem nmE_ap {i : Nat} : nmE i Γ M = getG Γ i M := rfl
@[simp] theorem kE_ap {d : PyData} : kE d Γ M = .ok (.d d) M := rfl
def bin2 (op : W → W → MS → Option (W × MS)) (r : Res W) (g : EF) (Γ : GS) : Res W := r.bind fun x M1 => (g Γ M1).bind fun y M2 => Res.of (op x y M2)
def bin3 (op : W → W → MS → Option (W × MS)) (x : W) (r : Res W) : Res W := r.bind fun y M2 => Res.of (op x y M2)
@[simp] theorem binE_ap {op : W → W → MS → Option (W × MS)} : binE op f g Γ M = bin2 op (f Γ M) g Γ := rfl
@[simp] theorem bin2_ok {op : W → W → MS → Option (W × MS)} : bin2 op (.ok x M1) g Γ = bin3 op x (g Γ M1) := rfl
@[simp] theorem bin2_ex {op : W → W → MS → Option (W × MS)} : bin2 op (.ex e M1) g Γ = .ex e M1 := rfl
@[simp] theorem bin3_ok {op : W → W → MS → Option (W × MS)} : bin3 op x (.ok y M2) = Res.of (op x y M2) := rfl
@[simp] theorem bin3_ex {op : W → W → MS → Option (W × MS)} : bin3 op x (.ex e M2) = .ex e M2 := rfl
@[simp] theorem ixE_ap : ixE f g Γ M = bin2 ixV (f Γ M) g Γ := rfl
def un2 (op : W → MS → Option (W × MS)) (r : Res W) : Res W := r.bind fun x M1 => Res.of (op x M1)
@[simp] theorem unE_ap {op : W → MS → Option (W × MS)} : unE op f Γ M = un2 op (f Γ M) := rfl
@[simp] theorem un2_ok {op : W → MS → Option (W × MS)} : un2 op (.ok x M1) = Res.of (op x M1) := rfl
@[simp] theorem un2_ex {op : W → MS → Option (W × MS)} : un2 op (.ex e M1) = .ex e M1 := rfl
@[simp] theorem cmpE_ap {op : W → W → MS → Option Bool} : cmpE op f g Γ M = bin2 (liftC op) (f Γ M) g Γ := rfl
@[simp] theorem liftC_ap {op : W → W → MS → Option Bool} : liftC op x y M = (op x y M).map fun r => (.d (.bool r), M) := rfl
def cmp2 (op : W → W → MS → Option Bool) (r : Res W) (g : EF) (Γ : GS) : Res Bool := r.bind fun x M1 => (g Γ M1).bind fun y M2 => Res.of ((op x y M2).map fun r => (r, M2))
def cmp3 (op : W → W → MS → Option Bool) (x : W) (r : Res W) : Res Bool := r.bind fun y M2 => Res.of ((op x y M2).map fun r => (r, M2))
def ofB (o : Option Bool) (M : MS) : Res Bool := Res.of (o.map fun r => (r, M))
@[simp] theorem ofB_some {b : Bool} : ofB (some b) M = .ok b M := rfl
@[simp] theorem cmpT_ap {op : W → W → MS → Option Bool} : cmpT op f g Γ M = cmp2 op (f Γ M) g Γ := rfl
@[simp] theorem cmp2_ok {op : W → W → MS → Option Bool} : cmp2 op (.ok x M1) g Γ = cmp3 op x (g Γ M1) := rfl
@[simp] theorem cmp3_ok {op : W → W → MS → Option Bool} : cmp3 op x (.ok y M2) = ofB (op x y M2) M2 := rfl
def unT2 (p : W → Bool) (r : Res W) : Res Bool := r.bind fun x M1 => .ok (p x) M1
@[simp] theorem unT_ap {p : W → Bool} : unT p f Γ M = unT2 p (f Γ M) := rfl
@[simp] theorem unT2_ok {p : W → Bool} : unT2 p (.ok x M) = .ok (p x) M := rfl
def val2 (r : Res W) : Res Bool := r.bind fun x M1 => match x with
  | .d (.bool c) => .ok c M1
  | _ => .bad
@[simp] theorem valT_ap : valT f Γ M = val2 (f Γ M) := rfl
@[simp] theorem val2_ok {c : Bool} : val2 (.ok (.d (.bool c)) M) = .ok c M := rfl
@[simp] theorem val2_ex : val2 (.ex e M) = .ex e M := rfl
def not2 (r : Res Bool) : Res Bool := r.bind fun c M1 => .ok (!c) M1
@[simp] theorem notT_ap : notT t Γ M = not2 (t Γ M) := rfl
@[simp] theorem not2_ok {c : Bool} : not2 (.ok c M) = .ok (!c) M := rfl
@[simp] theorem not2_ex : not2 (.ex e M) = .ex e M := rfl
def and2 (r : Res Bool) (u : TF) (Γ : GS) : Res Bool := r.bind fun c M1 => if c then u Γ M1 else .ok false M1
@[simp] theorem andT_ap : andT t u Γ M = and2 (t Γ M) u Γ := rfl
@[simp] theorem and2_t : and2 (.ok true M) u Γ = u Γ M := rfl
@[simp] theorem and2_f : and2 (.ok false M) u Γ = .ok false M := rfl
def or2 (r : Res Bool) (u : TF) (Γ : GS) : Res Bool := r.bind fun c M1 => if c then .ok true M1 else u Γ M1
@[simp] theorem orT_ap : orT t u Γ M = or2 (t Γ M) u Γ := rfl
@[simp] theorem or2_t : or2 (.ok true M) u Γ = .ok true M := rfl
@[simp] theorem or2_f : or2 (.ok false M) u Γ = u Γ M := rfl
def andE2 (r : Res W) (g : EF) (Γ : GS) : Res W := r.bind fun x M1 => match boolW x with
  | some true => g Γ M1
  | some false => .ok (.d (.bool false)) M1
  | none => .bad
@[simp] theorem andE_ap : andE f g Γ M = andE2 (f Γ M) g Γ := rfl
@[simp] theorem andE2_t : andE2 (.ok (.d (.bool true)) M) g Γ = g Γ M := rfl
@[simp] theorem andE2_f : andE2 (.ok (.d (.bool false)) M) g Γ = .ok (.d (.bool false)) M := rfl
def orE2 (r : Res W) (g : EF) (Γ : GS) : Res W := r.bind fun x M1 => match boolW x with
  | some true => .ok (.d (.bool true)) M1
  | some false => g Γ M1
  | none => .bad
@[simp] theorem orE_ap : orE f g Γ M = orE2 (f Γ M) g Γ := rfl
@[simp] theorem orE2_t : orE2 (.ok (.d (.bool true)) M) g Γ = .ok (.d (.bool true)) M := rfl
@[simp] theorem orE2_f : orE2 (.ok (.d (.bool false)) M) g Γ = g Γ M := rfl
def ifE2 (r : Res Bool) (f g : EF) (Γ : GS) : Res W := r.bind fun c M1 => if c then f Γ M1 else g Γ M1
@[simp] theorem ifE_ap : ifE t f g Γ M = ifE2 (t Γ M) f g Γ := rfl
@[simp] theorem ifE2_t : ifE2 (.ok true M) f g Γ = f Γ M := rfl
@[simp] theorem ifE2_f : ifE2 (.ok false M) f g Γ = g Γ M := rfl
@[simp] theorem yesT_ap : yesT Γ M = .ok true M := rfl
variable {a b : AF} {ws vs : List W}
@[simp] theorem nilA_ap : nilA Γ M = .ok [] M := rfl
def cons2 (r : Res W) (a : AF) (Γ : GS) : Res (List W) := r.bind fun x M1 => (a Γ M1).bind fun xs M2 => .ok (x :: xs) M2
def cons3 (x : W) (r : Res (List W)) : Res (List W) := r.bind fun xs M2 => .ok (x :: xs) M2
@[simp] theorem consA_ap : consA f a Γ M = cons2 (f Γ M) a Γ := rfl
@[simp] theorem cons2_ok : cons2 (.ok x M) a Γ = cons3 x (a Γ M) := rfl
@[simp] theorem cons2_ex : cons2 (.ex e M) a Γ = .ex e M := rfl
@[simp] theorem cons3_ok : cons3 x (.ok ws M) = .ok (x :: ws) M := rfl
def star2 (r : Res W) (a : AF) (Γ : GS) : Res (List W) := r.bind fun x M1 => match allD M1 x with
  | some ds => (a Γ M1).bind fun xs M2 => .ok (ds.map .d ++ xs) M2
  | none => .bad
def star3 (o : Option (List PyData)) (r : Res (List W)) : Res (List W) := match o with
  | some ds => r.bind fun xs M2 => .ok (ds.map .d ++ xs) M2
  | none => .bad
@[simp] theorem starA_ap : starA f a Γ M = star2 (f Γ M) a Γ := rfl
@[simp] theorem star2_ok : star2 (.ok x M) a Γ = star3 (allD M x) (a Γ M) := by unfold star2 star3; rw [bind_ok]
@[simp] theorem star3_ok {ds : List PyData} : star3 (some ds) (.ok ws M) = .ok (ds.map .d ++ ws) M := rfl
def arg2 (op : List W → MS → Option (W × MS)) (r : Res (List W)) : Res W := r.bind fun x M1 => Res.of (op x M1)
@[simp] theorem argE_ap {op : List W → MS → Option (W × MS)} : argE op a Γ M = arg2 op (a Γ M) := rfl
@[simp] theorem arg2_ok {op : List W → MS → Option (W × MS)} : arg2 op (.ok ws M) = Res.of (op ws M) := rfl
@[simp] theorem arg2_ex {op : List W → MS → Option (W × MS)} : arg2 op (.ex e M) = .ex e M := rfl
def call2 (G : FF) (r : Res (List W)) : Res W := r.bind fun ws M1 => G ws M1
@[simp] theorem callE_ap {G : FF} : callE G a Γ M = call2 G (a Γ M) := rfl
@[simp] theorem call2_ok {G : FF} : call2 G (.ok ws M) = G ws M := rfl
@[simp] theorem call2_ex {G : FF} : call2 G (.ex e M) = .ex e M := rfl
variable {P R : GS → MS → Res (Option Int)} {lo hi : Option Int}
@[simp] theorem noneP_ap : noneP Γ M = .ok none M := rfl
def some2 (r : Res W) : Res (Option Int) := match r with
  | .ok (.d (.int i)) M1 => .ok (some i) M1
  | _ => .bad
@[simp] theorem someP_ap : someP f Γ M = some2 (f Γ M) := rfl
@[simp] theorem some2_ok {i : Int} : some2 (.ok (.d (.int i)) M) = .ok (some i) M := rfl
def sl2 (op : W → Option Int → Option Int → MS → Option (W × MS)) (r : Res W) (P R : GS → MS → Res (Option Int)) (Γ : GS) : Res W := r.bind fun x M1 => match P Γ M1 with
  | .ok l M2 => (match R Γ M2 with
    | .ok u M3 => Res.of (op x l u M3)
    | _ => .bad)
  | _ => .bad
def sl3 (op : W → Option Int → Option Int → MS → Option (W × MS)) (x : W) (r : Res (Option Int)) (R : GS → MS → Res (Option Int)) (Γ : GS) : Res W := match r with
  | .ok l M2 => (match R Γ M2 with
    | .ok u M3 => Res.of (op x l u M3)
    | _ => .bad)
  | _ => .bad
def sl4 (op : W → Option Int → Option Int → MS → Option (W × MS)) (x : W) (l : Option Int) (r : Res (Option Int)) : Res W := match r with
  | .ok u M3 => Res.of (op x l u M3)
  | _ => .bad
@[simp] theorem slE_ap {op : W → Option Int → Option Int → MS → Option (W × MS)} : slE op f P R Γ M = sl2 op (f Γ M) P R Γ := rfl
@[simp] theorem sl2_ok {op : W → Option Int → Option Int → MS → Option (W × MS)} : sl2 op (.ok x M) P R Γ = sl3 op x (P Γ M) R Γ := rfl
@[simp] theorem sl3_ok {op : W → Option Int → Option Int → MS → Option (W × MS)} : sl3 op x (.ok lo M) R Γ = sl4 op x lo (R Γ M) := rfl
@[simp] theorem sl4_ok {op : W → Option Int → Option Int → MS → Option (W × MS)} : sl4 op x lo (.ok hi M) = Res.of (op x lo hi M) := rfl
/-! statements -/
variable {s s' : SF}
@[simp] theorem nilS_ap : nilS Γ M = .nx Γ M := rfl
def seq2 (r : RS) (g : SF) : RS := match r with
  | .nx Γ1 M1 => g Γ1 M1
  | r => r
@[simp] theorem seqS_ap : seqS s s' Γ M = seq2 (s Γ M) s' := rfl
@[simp] theorem seq2_nx : seq2 (.nx Γ M) s = s Γ M := rfl
@[simp] theorem seq2_rt : seq2 (.rt w M) s = .rt w M := rfl
@[simp] theorem seq2_bk : seq2 (.bk Γ M) s = .bk Γ M := rfl
@[simp] theorem seq2_ct : seq2 (.ct Γ M) s = .ct Γ M := rfl
@[simp] theorem seq2_ex : seq2 (.ex e Γ M) s = .ex e Γ M := rfl
def expr2 (r : Res W) (Γ : GS) : RS := r.go Γ fun _ M1 => .nx Γ M1
@[simp] theorem exprS_ap : exprS f Γ M = expr2 (f Γ M) Γ := rfl
@[simp] theorem expr2_ok : expr2 (.ok x M) Γ = .nx Γ M := rfl
@[simp] theorem expr2_ex : expr2 (.ex e M) Γ = .ex e Γ M := rfl
def ret2 (r : Res W) (Γ : GS) : RS := r.go Γ fun w M1 => .rt w M1
@[simp] theorem retS_ap : retS f Γ M = ret2 (f Γ M) Γ := rfl
@[simp] theorem ret2_ok : ret2 (.ok x M) Γ = .rt x M := rfl
@[simp] theorem ret2_ex : ret2 (.ex e M) Γ = .ex e Γ M := rfl
@[simp] theorem retNS_ap : retNS Γ M = .rt (.d .none) M := rfl
@[simp] theorem bkS_ap : bkS Γ M = .bk Γ M := rfl
@[simp] theorem ctS_ap : ctS Γ M = .ct Γ M := rfl
def if2 (r : Res Bool) (s s' : SF) (Γ : GS) : RS := r.goT Γ fun b M1 => if b then s Γ M1 else s' Γ M1
@[simp] theorem ifS_ap : ifS t s s' Γ M = if2 (t Γ M) s s' Γ := rfl
@[simp] theorem if2_t : if2 (.ok true M) s s' Γ = s Γ M := rfl
@[simp] theorem if2_f : if2 (.ok false M) s s' Γ = s' Γ M := rfl
@[simp] theorem if2_ex : if2 (.ex e M) s s' Γ = .ex e Γ M := rfl
def set2 (i : Nat) (r : Res W) (Γ : GS) : RS := r.go Γ fun w M1 => .nx (Γ.set i (some w)) M1
@[simp] theorem setS_ap {i : Nat} : setS i f Γ M = set2 i (f Γ M) Γ := rfl
@[simp] theorem set2_ok {i : Nat} : set2 i (.ok x M) Γ = .nx (Γ.set i (some x)) M := rfl
@[simp] theorem set2_ex {i : Nat} : set2 i (.ex e M) Γ = .ex e Γ M := rfl
def asg2 (r : Res W) (g : TGF) (Γ : GS) : RS := r.go Γ fun w M1 => match g w Γ M1 with
  | some (Γ2, M2) => .nx Γ2 M2
  | none => .bad
def asg3 (o : Option (GS × MS)) : RS := match o with
  | some (Γ2, M2) => .nx Γ2 M2
  | none => .bad
@[simp] theorem asgS_ap {g : TGF} : asgS f g Γ M = asg2 (f Γ M) g Γ := rfl
@[simp] theorem asg2_ok {g : TGF} : asg2 (.ok x M) g Γ = asg3 (g x Γ M) := rfl
@[simp] theorem asg3_ok : asg3 (some (Γ, M)) = .nx Γ M := rfl
def par2 (i j : Nat) (r : Res W) (g : EF) (Γ : GS) : RS := r.go Γ fun v M1 => (g Γ M1).go Γ fun w M2 => .nx ((Γ.set i (some v)).set j (some w)) M2
def par3 (i j : Nat) (v : W) (r : Res W) (Γ : GS) : RS := r.go Γ fun w M2 => .nx ((Γ.set i (some v)).set j (some w)) M2
@[simp] theorem parS_ap {i j : Nat} : parS i j f g Γ M = par2 i j (f Γ M) g Γ := rfl
@[simp] theorem par2_ok {i j : Nat} : par2 i j (.ok x M) g Γ = par3 i j x (g Γ M) Γ := rfl
@[simp] theorem par3_ok {i j : Nat} : par3 i j x (.ok y M) Γ = .nx ((Γ.set i (some x)).set j (some y)) M := rfl
def pat2 (i j l : Nat) (r : Res W) (g h : EF) (Γ : GS) : RS := r.go Γ fun v M1 => (g Γ M1).go Γ fun w M2 => (h Γ M2).go Γ fun u M3 => .nx (((Γ.set i (some v)).set j (some w)).set l (some u)) M3
def pat3 (i j l : Nat) (v : W) (r : Res W) (h : EF) (Γ : GS) : RS := r.go Γ fun w M2 => (h Γ M2).go Γ fun u M3 => .nx (((Γ.set i (some v)).set j (some w)).set l (some u)) M3
def pat4 (i j l : Nat) (v w : W) (r : Res W) (Γ : GS) : RS := r.go Γ fun u M3 => .nx (((Γ.set i (some v)).set j (some w)).set l (some u)) M3
@[simp] theorem par3S_ap {i j l : Nat} : par3S i j l f g h Γ M = pat2 i j l (f Γ M) g h Γ := rfl
@[simp] theorem pat2_ok {i j l : Nat} : pat2 i j l (.ok x M) g h Γ = pat3 i j l x (g Γ M) h Γ := rfl
@[simp] theorem pat3_ok {i j l : Nat} : pat3 i j l x (.ok y M) h Γ = pat4 i j l x y (h Γ M) Γ := rfl
@[simp] theorem pat4_ok {i j l : Nat} {z : W} : pat4 i j l x y (.ok z M) Γ = .nx (((Γ.set i (some x)).set j (some y)).set l (some z)) M := rfl
def only2 (r : Res W) : Res W := match r with
  | .ok w M1 => .ok w M1
  | _ => .bad
@[simp] theorem onlyE_ap : onlyE f Γ M = only2 (f Γ M) := rfl
@[simp] theorem only2_ok : only2 (.ok x M) = .ok x M := rfl
@[simp] theorem dnewE_ap : dnewE Γ M = .ok (.m M.length) (M ++ [.dic []]) := rfl
def aug2 (i : Nat) (op : Int → Int → Int) (n : Int) (r : Res W) (Γ : GS) : RS := match r with
  | .ok (.d (.int m)) M1 => .nx (Γ.set i (some (.d (.int (op n m))))) M1
  | _ => .bad
def aug1 (i : Nat) (op : Int → Int → Int) (f : EF) (o : Res W) (Γ : GS) (M : MS) : RS := match o with
  | .ok (.d (.int n)) _ => aug2 i op n (f Γ M) Γ
  | _ => .bad
@[simp] theorem augNS_ap {i : Nat} {op : Int → Int → Int} : augNS i op f Γ M = aug1 i op f (getG Γ i M) Γ M := by
  unfold augNS aug1 getG
  split
  · rename_i n hn; rw [hn]; rfl
  · rename_i hn
    split
    · rename_i n m heq
      split at heq
      · rename_i w hw
        cases heq
        exact absurd hw (hn n)
      · cases heq
    · rfl
@[simp] theorem aug1_ok {i : Nat} {op : Int → Int → Int} {n : Int} : aug1 i op f (.ok (.d (.int n)) M1) Γ M = aug2 i op n (f Γ M) Γ := rfl
@[simp] theorem aug2_ok {i : Nat} {op : Int → Int → Int} {n m : Int} : aug2 i op n (.ok (.d (.int m)) M) Γ = .nx (Γ.set i (some (.d (.int (op n m))))) M := rfl
def augB (op : Int → Int → Int) (j : Nat) (k : PyData) (n : Int) (r : Res W) (Γ : GS) : RS := match r with
  | .ok z M3 => (match (intW z).bind fun m => setV (.m j) (.d k) (.d (.int (op n m))) M3 with
    | some M4 => .nx Γ M4
    | none => .bad)
  | _ => .bad
def augC (o : Option MS) (Γ : GS) : RS := match o with
  | some M4 => .nx Γ M4
  | none => .bad
def augD (op : Int → Int → Int) (j : Nat) (k : PyData) (o : Option Int) (f : EF) (Γ : GS) (M : MS) : RS := match o with
  | some n => augB op j k n (f Γ M) Γ
  | none => .bad
def oldI (M : MS) (j : Nat) (k : PyData) : Option Int := (M[j]?).bind fun mo => (oldV mo k).bind intW
@[simp] theorem oldI_ap {j : Nat} {k : PyData} {mo : MO} (hm : M[j]? = some mo) : oldI M j k = (oldV mo k).bind intW := by unfold oldI; rw [hm]; rfl
def aug3 (op : Int → Int → Int) (r : Res W) (g f : EF) (Γ : GS) : RS := match r with
  | .ok x M1 => (match g Γ M1 with
    | .ok y M2 => (match x, y with
      | .m j, .d k => augAt op j k f Γ M2
      | _, _ => .bad)
    | _ => .bad)
  | _ => .bad
def aug4 (op : Int → Int → Int) (j : Nat) (r : Res W) (f : EF) (Γ : GS) : RS := match r with
  | .ok (.d k) M2 => augD op j k (oldI M2 j k) f Γ M2
  | _ => .bad
@[simp] theorem augSS_ap {op : Int → Int → Int} : augSS op f g h Γ M = aug3 op (f Γ M) g h Γ := rfl
@[simp] theorem aug3_ok {op : Int → Int → Int} {j : Nat} : aug3 op (.ok (.m j) M) g f Γ = aug4 op j (g Γ M) f Γ := by
  unfold aug3 aug4
  show (match g Γ M with
    | .ok y M2 => (match W.m j, y with
      | .m j, .d k => augAt op j k f Γ M2
      | _, _ => .bad)
    | _ => .bad) = _
  cases g Γ M with
  | ok y M2 =>
    cases y with
    | d k =>
      show augAt op j k f Γ M2 = augD op j k (oldI M2 j k) f Γ M2
      unfold augAt augD oldI
      cases (M2[j]?).bind fun mo => (oldV mo k).bind intW with
      | none => rfl
      | some n => rfl
    | m _ => rfl
  | ex _ _ => rfl
  | bad => rfl
@[simp] theorem aug4_ok {op : Int → Int → Int} {j : Nat} {k : PyData} : aug4 op j (.ok (.d k) M) f Γ = augD op j k (oldI M j k) f Γ M := rfl
@[simp] theorem augD_ok {op : Int → Int → Int} {j : Nat} {k : PyData} {n : Int} : augD op j k (some n) f Γ M = augB op j k n (f Γ M) Γ := rfl
@[simp] theorem augB_ok {op : Int → Int → Int} {j : Nat} {k : PyData} {n m : Int} : augB op j k n (.ok (.d (.int m)) M) Γ = augC (setV (.m j) (.d k) (.d (.int (op n m))) M) Γ := rfl
@[simp] theorem augC_ok : augC (some M) Γ = .nx Γ M := rfl
/-! targets -/
@[simp] theorem nmG_ap {i : Nat} : nmG i w Γ M = some (Γ.set i (some w), M) := rfl
@[simp] theorem nilG_ap : nilG [] Γ M = some (Γ, M) := rfl
def consG2 (o : Option (GS × MS)) (hh : TGFs) (ws : List W) : Option (GS × MS) := o.bind fun q => hh ws q.1 q.2
@[simp] theorem consG_ap {g : TGF} {hh : TGFs} : consG g hh (w :: ws) Γ M = consG2 (g w Γ M) hh ws := rfl
@[simp] theorem consG2_ok {hh : TGFs} : consG2 (some (Γ, M)) hh ws = hh ws Γ M := rfl
@[simp] theorem tupG_ap {n : Nat} {hh : TGFs} {ds : List PyData} : tupG n hh (.d (.tuple ds)) Γ M = if ds.length = n then hh (ds.map .d) Γ M else none := rfl
def subG2 (r : Res W) (g : EF) (w : W) (Γ : GS) : Option (GS × MS) := match r with
  | .ok x M1 => (match g Γ M1 with
    | .ok y M2 => (setV x y w M2).map fun M3 => (Γ, M3)
    | _ => none)
  | _ => none
def subG3 (x : W) (r : Res W) (w : W) (Γ : GS) : Option (GS × MS) := match r with
  | .ok y M2 => (setV x y w M2).map fun M3 => (Γ, M3)
  | _ => none
def subG4 (o : Option MS) (Γ : GS) : Option (GS × MS) := o.map fun M3 => (Γ, M3)
@[simp] theorem subG_ap : subG f g w Γ M = subG2 (f Γ M) g w Γ := rfl
@[simp] theorem subG2_ok : subG2 (.ok x M) g w Γ = subG3 x (g Γ M) w Γ := rfl
@[simp] theorem subG3_ok : subG3 x (.ok y M) w Γ = subG4 (setV x y w M) Γ := rfl
@[simp] theorem subG4_ok : subG4 (some M) Γ = some (Γ, M) := rfl
/-! what is walked -/
variable {ds : List PyData} {i : IF} {tg : TGF}
def seqI2 (r : Res W) : Res (List PyData) := r.bind fun x M1 => match seqD x with
  | some ds => .ok ds M1
  | none => .bad
@[simp] theorem seqI_ap : seqI f Γ M = seqI2 (f Γ M) := rfl
@[simp] theorem seqI2_l : seqI2 (.ok (.d (.list ds)) M) = .ok ds M := rfl
@[simp] theorem seqI2_t : seqI2 (.ok (.d (.tuple ds)) M) = .ok ds M := rfl
def rng12 (r : Res W) : Res (List PyData) := r.bind fun x M1 => match intW x with
  | some n => rng1D n M1
  | none => .bad
@[simp] theorem rng1I_ap : rng1I f Γ M = rng12 (f Γ M) := rfl
@[simp] theorem rng12_ok {n : Int} : rng12 (.ok (.d (.int n)) M) = rng1D n M := rfl
def rng22 (r : Res W) (g : EF) (Γ : GS) : Res (List PyData) := r.bind fun x M1 => (g Γ M1).bind fun y M2 => match intW x, intW y with
  | some i, some j => rng2D i j M2
  | _, _ => .bad
def rng23 (n : Int) (r : Res W) : Res (List PyData) := r.bind fun y M2 => match intW y with
  | some j => rng2D n j M2
  | _ => .bad
@[simp] theorem rng2I_ap : rng2I f g Γ M = rng22 (f Γ M) g Γ := rfl
@[simp] theorem rng22_ok {n : Int} : rng22 (.ok (.d (.int n)) M) g Γ = rng23 n (g Γ M) := by
  unfold rng22 rng23
  rw [bind_ok]
  congr 1
  funext y M2
  cases intW y <;> rfl
@[simp] theorem rng23_ok {n m : Int} : rng23 n (.ok (.d (.int m)) M) = rng2D n m M := rfl
def zip2 (r : Res W) (g : EF) (Γ : GS) : Res (List PyData) := r.bind fun x M1 => (g Γ M1).bind fun y M2 => match zipV x y with
  | some ds => .ok ds M2
  | none => .bad
def zip3 (x : W) (r : Res W) : Res (List PyData) := r.bind fun y M2 => match zipV x y with
  | some ds => .ok ds M2
  | none => .bad
@[simp] theorem zipI_ap : zipI f g Γ M = zip2 (f Γ M) g Γ := rfl
@[simp] theorem zip2_ok : zip2 (.ok x M) g Γ = zip3 x (g Γ M) := rfl
@[simp] theorem zip3_l {es : List PyData} : zip3 (.d (.list ds)) (.ok (.d (.list es)) M) = .ok (pairsD ds es) M := rfl
@[simp] theorem zip3_t {es : List PyData} : zip3 (.d (.tuple ds)) (.ok (.d (.tuple es)) M) = .ok (pairsD ds es) M := rfl
def for2 (r : Res (List PyData)) (tg : TGF) (s : SF) (Γ : GS) : RS := match r with
  | .ok ds M1 => forL tg s ds Γ M1
  | .ex x M1 => .ex x Γ M1
  | .bad => .bad
@[simp] theorem forS_ap : forS i tg s Γ M = for2 (i Γ M) tg s Γ := rfl
@[simp] theorem for2_ok : for2 (.ok ds M) tg s Γ = forL tg s ds Γ M := rfl
def lc2 (mk : List W → MS → Option (W × MS)) (vs : List Nat) (r : Res (List PyData)) (tg : TGF) (t : TF) (f : EF) (Γ : GS) : Res W := r.bind fun ds M1 => lcR mk tg t f vs Γ ds M1
@[simp] theorem lcE_ap {mk : List W → MS → Option (W × MS)} {vs : List Nat} : lcE mk vs i tg t f Γ M = lc2 mk vs (i Γ M) tg t f Γ := rfl
@[simp] theorem lc2_ok {mk : List W → MS → Option (W × MS)} {vs : List Nat} : lc2 mk vs (.ok ds M) tg t f Γ = lcR mk tg t f vs Γ ds M := rfl
def dc2 (mk : List (Key × W) → MS → Option (W × MS)) (vs : List Nat) (r : Res (List PyData)) (tg : TGF) (t : TF) (f g : EF) (Γ : GS) : Res W := r.bind fun ds M1 => dcR mk tg t f g vs Γ ds M1
@[simp] theorem dcE_ap {mk : List (Key × W) → MS → Option (W × MS)} {vs : List Nat} : dcE mk vs i tg t f g Γ M = dc2 mk vs (i Γ M) tg t f g Γ := rfl
@[simp] theorem dc2_ok {mk : List (Key × W) → MS → Option (W × MS)} {vs : List Nat} : dc2 mk vs (.ok ds M) tg t f g Γ = dcR mk tg t f g vs Γ ds M := rfl
def met12 (op : Nat → List W → W → MS → Option (W × MS)) (r : Res W) (g : EF) (Γ : GS) : Res W := match r with
  | .ok x M1 => (match lstM M1 x with
    | some _ => (match g Γ M1 with
      | .ok y M2 => (match lstM M2 x with
        | some (j, ws) => Res.of (op j ws y M2)
        | none => .bad)
      | _ => .bad)
    | none => .bad)
  | _ => .bad
def met13 (op : Nat → List W → W → MS → Option (W × MS)) (x : W) (o : Option (Nat × List W)) (r : Res W) : Res W := match o with
  | some _ => (match r with
    | .ok y M2 => (match lstM M2 x with
      | some (j, ws) => Res.of (op j ws y M2)
      | none => .bad)
    | _ => .bad)
  | none => .bad
def met14 (op : Nat → List W → W → MS → Option (W × MS)) (o : Option (Nat × List W)) (y : W) (M : MS) : Res W := match o with
  | some (j, ws) => Res.of (op j ws y M)
  | none => .bad
@[simp] theorem met1_ap {op : Nat → List W → W → MS → Option (W × MS)} : met1 op f g Γ M = met12 op (f Γ M) g Γ := rfl
@[simp] theorem met12_ok {op : Nat → List W → W → MS → Option (W × MS)} : met12 op (.ok x M) g Γ = met13 op x (lstM M x) (g Γ M) := rfl
@[simp] theorem met13_ok {op : Nat → List W → W → MS → Option (W × MS)} {q : Nat × List W} : met13 op x (some q) (.ok y M) = met14 op (lstM M x) y M := rfl
@[simp] theorem met14_ok {op : Nat → List W → W → MS → Option (W × MS)} {j : Nat} : met14 op (some (j, ws)) y M = Res.of (op j ws y M) := rfl
def met22 (op : Nat → List W → W → W → MS → Option (W × MS)) (r : Res W) (g h : EF) (Γ : GS) : Res W := match r with
  | .ok x M1 => (match lstM M1 x with
    | some _ => (match g Γ M1 with
      | .ok y M2 => (match h Γ M2 with
        | .ok z M3 => (match lstM M3 x with
          | some (j, ws) => Res.of (op j ws y z M3)
          | none => .bad)
        | _ => .bad)
      | _ => .bad)
    | none => .bad)
  | _ => .bad
def met23 (op : Nat → List W → W → W → MS → Option (W × MS)) (x : W) (o : Option (Nat × List W)) (r : Res W) (h : EF) (Γ : GS) : Res W := match o with
  | some _ => (match r with
      | .ok y M2 => (match h Γ M2 with
        | .ok z M3 => (match lstM M3 x with
          | some (j, ws) => Res.of (op j ws y z M3)
          | none => .bad)
        | _ => .bad)
      | _ => .bad)
  | none => .bad
def met24 (op : Nat → List W → W → W → MS → Option (W × MS)) (x y : W) (r : Res W) : Res W := match r with
  | .ok z M3 => (match lstM M3 x with
    | some (j, ws) => Res.of (op j ws y z M3)
    | none => .bad)
  | _ => .bad
def met25 (op : Nat → List W → W → W → MS → Option (W × MS)) (o : Option (Nat × List W)) (y z : W) (M : MS) : Res W := match o with
  | some (j, ws) => Res.of (op j ws y z M)
  | none => .bad
@[simp] theorem met2_ap {op : Nat → List W → W → W → MS → Option (W × MS)} : met2 op f g h Γ M = met22 op (f Γ M) g h Γ := rfl
@[simp] theorem met22_ok {op : Nat → List W → W → W → MS → Option (W × MS)} : met22 op (.ok x M) g h Γ = met23 op x (lstM M x) (g Γ M) h Γ := rfl
@[simp] theorem met23_ok {op : Nat → List W → W → W → MS → Option (W × MS)} {q : Nat × List W} : met23 op x (some q) (.ok y M) h Γ = met24 op x y (h Γ M) := rfl
@[simp] theorem met24_ok {op : Nat → List W → W → W → MS → Option (W × MS)} {z : W} : met24 op x y (.ok z M) = met25 op (lstM M x) y z M := rfl
@[simp] theorem met25_ok {op : Nat → List W → W → W → MS → Option (W × MS)} {j : Nat} {z : W} : met25 op (some (j, ws)) y z M = Res.of (op j ws y z M) := rfl
end
end Z

/-! S15: the operations on values, for simp; the memory's cells; a def's end. -/
namespace Z
open PySem PySem.Spec PyProof.Rows L2
section
variable {M : MS} {i j : Int} {x y : W} {ds es : List PyData} {p q : Str}
@[simp] theorem add_i : addV (.d (.int i)) (.d (.int j)) M = some (.d (.int (i + j)), M) := rfl
@[simp] theorem add_s : addV (.d (.str p)) (.d (.str q)) M = chk (p.length + q.length) (some (.d (.str (p ++ q)), M)) := rfl
@[simp] theorem add_t : addV (.d (.tuple ds)) (.d (.tuple es)) M = chk (ds.length + es.length) (some (.d (.tuple (ds ++ es)), M)) := rfl
@[simp] theorem add_l : addV (.d (.list ds)) (.d (.list es)) M = chk (ds.length + es.length) (some (.d (.list (ds ++ es)), M)) := rfl
@[simp] theorem sub_i : subV (.d (.int i)) (.d (.int j)) M = some (.d (.int (i - j)), M) := rfl
@[simp] theorem mod_i : modV (.d (.int i)) (.d (.int j)) M = if 0 < j then some (.d (.int (i % j)), M) else none := by
  show (if decide (0 < j) = true then _ else _) = _
  simp only [decide_eq_true_eq]
@[simp] theorem fdiv_i : fdivV (.d (.int i)) (.d (.int j)) M = if 0 < j ∧ j < 1073741824 then some (.d (.int (i / j)), M) else none := by
  show (if decide (0 < j ∧ j < 1073741824) = true then _ else _) = _
  simp only [decide_eq_true_eq]
@[simp] theorem pow_i : powV (.d (.int i)) (.d (.int j)) M = if 0 ≤ j ∧ j ≤ 1000000 ∧ i.natAbs < 2 ^ 64 then some (.d (.int (i ^ j.toNat)), M) else none := by
  show (if decide (0 ≤ j ∧ j ≤ 1000000 ∧ i.natAbs < 2 ^ 64) = true then _ else _) = _
  simp only [decide_eq_true_eq]
@[simp] theorem mul_i : mulV (.d (.int i)) (.d (.int j)) M = if (-(2 ^ 64) < i ∧ i < 2 ^ 64) ∨ (-(2 ^ 64) < j ∧ j < 2 ^ 64) then some (.d (.int (i * j)), M) else none := by
  show (if decide ((-(2 ^ 64) < i ∧ i < 2 ^ 64) ∨ (-(2 ^ 64) < j ∧ j < 2 ^ 64)) = true then _ else _) = _
  simp only [decide_eq_true_eq]
@[simp] theorem neg_i : negV (.d (.int i)) M = some (.d (.int (-i)), M) := rfl
@[simp] theorem lt_i : ltC (.d (.int i)) (.d (.int j)) M = some (decide (i < j)) := rfl
@[simp] theorem le_i : leC (.d (.int i)) (.d (.int j)) M = some (decide (i ≤ j)) := rfl
@[simp] theorem gt_i : gtC (.d (.int i)) (.d (.int j)) M = some (decide (j < i)) := rfl
@[simp] theorem ge_i : geC (.d (.int i)) (.d (.int j)) M = some (decide (j ≤ i)) := rfl
theorem eqv_i : PyData.eqv (.int i) (.int j) = decide (i = j) := by
  by_cases h : i = j
  · subst h; simp [PyData.eqv]
  · simp [PyData.eqv, h]
@[simp] theorem eq_i : eqC (.d (.int i)) (.d (.int j)) M = some (decide (i = j)) := by
  show (if SeqAt.shaped (.int i) && SeqAt.shaped (.int j) then some (PyData.eqv (.int i) (.int j)) else none) = _
  rw [eqv_i]; rfl
@[simp] theorem eq_s : eqC (.d (.str p)) (.d (.str q)) M = some (decide (p = q)) := rfl
@[simp] theorem ne_i : neC (.d (.int i)) (.d (.int j)) M = some (!decide (i = j)) := by unfold neC; rw [eq_i]; rfl
@[simp] theorem ne_s : neC (.d (.str p)) (.d (.str q)) M = some (!decide (p = q)) := rfl
@[simp] theorem isN_n : isN (.d .none) = true := rfl
@[simp] theorem isN_i : isN (.d (.int i)) = false := rfl
@[simp] theorem isN_s : isN (.d (.str p)) = false := rfl
@[simp] theorem isN_t : isN (.d (.tuple ds)) = false := rfl
@[simp] theorem isN_l : isN (.d (.list ds)) = false := rfl
@[simp] theorem isNV_ap : isNV x M = some (.d (.bool (isN x)), M) := rfl
@[simp] theorem notNV_ap : notNV x M = some (.d (.bool (!isN x)), M) := rfl
@[simp] theorem notV_b {c : Bool} : notV (.d (.bool c)) M = some (.d (.bool (!c)), M) := rfl
@[simp] theorem abs_i : absV (.d (.int i)) M = some (.d (.int (if i < 0 then -i else i)), M) := rfl
@[simp] theorem int_i : intV1 (.d (.int i)) M = some (.d (.int i), M) := rfl
@[simp] theorem int_b {c : Bool} : intV1 (.d (.bool c)) M = some (.d (.int (if c then 1 else 0)), M) := rfl
@[simp] theorem max_i : maxV (.d (.int i)) (.d (.int j)) M = some (.d (.int (if j > i then j else i)), M) := rfl
@[simp] theorem min_i : minV (.d (.int i)) (.d (.int j)) M = some (.d (.int (if j < i then j else i)), M) := rfl
@[simp] theorem len_l : lenV (.d (.list ds)) M = some (.d (.int (ds.length : Nat)), M) := by show some _ = _; rw [List.length_map]
@[simp] theorem len_t : lenV (.d (.tuple ds)) M = some (.d (.int (ds.length : Nat)), M) := by show some _ = _; rw [List.length_map]
@[simp] theorem len_s : lenV (.d (.str p)) M = chk p.length (some (.d (.int (p.length : Nat)), M)) := rfl
@[simp] theorem chk_if {α : Type} {n : Nat} {o : Option α} : chk n o = if n ≤ sizeLine then o else none := rfl
/-! subscripts -/
@[simp] theorem ix_l : ixV (.d (.list ds)) (.d (.int i)) M = (atI ds i).map fun d => (.d d, M) := by
  show (atI (ds.map W.d) i).map _ = _
  rw [atI_map, Option.map_map]; rfl
@[simp] theorem ix_t : ixV (.d (.tuple ds)) (.d (.int i)) M = (atI ds i).map fun d => (.d d, M) := by
  show (atI (ds.map W.d) i).map _ = _
  rw [atI_map, Option.map_map]; rfl
@[simp] theorem atI_z {α : Type} {a : α} {xs : List α} : atI (a :: xs) 0 = some a := atI_zero a xs
theorem atI_c {α : Type} {a : α} {xs : List α} {n : Nat} : atI (a :: xs) ((n + 1 : Nat) : Int) = atI xs (n : Int) := by
  unfold atI ixN
  simp
  split <;> split <;> simp_all <;> omega
theorem atI_n {α : Type} {xs : List α} {n : Nat} : atI xs (n : Int) = xs[n]? := by
  cases e : xs[n]? with
  | some x => exact atI_nat e
  | none =>
    have := List.getElem?_eq_none_iff.mp e
    unfold atI ixN
    simp
    intro h
    omega
@[simp] theorem atI_1 {α : Type} {xs : List α} : atI xs 1 = xs[1]? := atI_n (n := 1)
@[simp] theorem atI_2 {α : Type} {xs : List α} : atI xs 2 = xs[2]? := atI_n (n := 2)
@[simp] theorem atI_3 {α : Type} {xs : List α} : atI xs 3 = xs[3]? := atI_n (n := 3)
@[simp] theorem sl_l {lo hi : Option Int} : slV (.d (.list ds)) lo hi M = some (.d (.list (cutD ds lo hi)), M) := rfl
@[simp] theorem sl_t {lo hi : Option Int} : slV (.d (.tuple ds)) lo hi M = some (.d (.tuple (cutD ds lo hi)), M) := rfl
/-! displays -/
@[simp] theorem datsW_cons {d : PyData} {ws : List W} : datsW (.d d :: ws) = (datsW ws).map (d :: ·) := by
  show (match datW (.d d), datsW ws with
    | some d, some ds => some (d :: ds)
    | _, _ => none) = _
  cases datsW ws <;> rfl
@[simp] theorem datsW_m {k : Nat} {ws : List W} : datsW (.m k :: ws) = none := rfl
theorem tupV_ap {ws : List W} : tupV ws M = (datsW ws).bind fun ds => chk ds.length (some (.d (.tuple ds), M)) := rfl
@[simp] theorem tup_d {ws : List W} (h : datsW ws = some ds) : tupV ws M = chk ds.length (some (.d (.tuple ds), M)) := by unfold tupV; rw [h]; rfl
@[simp] theorem lst_d {ws : List W} (h : datsW ws = some ds) : lstV ws M = chk ds.length (some (.d (.list ds), M)) := by unfold lstV; rw [h]
@[simp] theorem lstM_ap {ws : List W} : lstMV ws M = chk ws.length (some (.m M.length, M ++ [.lst ws])) := rfl
@[simp] theorem toL_l : toList (.d (.list ds)) M = some (.d (.list ds), M) := rfl
@[simp] theorem toL_t : toList (.d (.tuple ds)) M = some (.d (.list ds), M) := rfl
@[simp] theorem toT_l : toTup (.d (.list ds)) M = some (.d (.tuple ds), M) := rfl
@[simp] theorem toT_t : toTup (.d (.tuple ds)) M = some (.d (.tuple ds), M) := rfl
@[simp] theorem toLM_l : toListM (.d (.list ds)) M = some (.m M.length, M ++ [.lst (ds.map .d)]) := rfl
@[simp] theorem toLM_t : toListM (.d (.tuple ds)) M = some (.m M.length, M ++ [.lst (ds.map .d)]) := rfl
/-! cells -/
theorem get_app {α : Type} (M L : List α) (k : Nat) : (M ++ L)[M.length + k]? = L[k]? := by rw [List.getElem?_append_right (by omega)]; congr 1; omega
@[simp] theorem get_app0 {α : Type} (M L : List α) : (M ++ L)[M.length]? = L[0]? := get_app M L 0
theorem set_app {α : Type} (M L : List α) (k : Nat) (x : α) : (M ++ L).set (M.length + k) x = M ++ L.set k x := by rw [List.set_append_right _ _ (by omega)]; congr 2; omega
@[simp] theorem set_app0 {α : Type} (M L : List α) (x : α) : (M ++ L).set M.length x = M ++ L.set 0 x := set_app M L 0 x
end
/-! cells read and changed by what stands there -/
section
variable {M : MS} {k : Nat} {i : Int} {x y w : W} {d : PyData} {ws : List W} {ks : List (Key × W)}
def lenO (M : MS) : Option MO → Option (W × MS)
  | some (.lst ws) => some (.d (.int (ws.length : Nat)), M)
  | _ => none
@[simp] theorem lenV_m : lenV (.m k) M = lenO M (M[k]?) := by
  show (match seqW M (.m k) with
    | some ws => some (W.d (.int (ws.length : Nat)), M)
    | none => none) = _
  have e1 : seqW M (.m k) = (match M[k]? with | some (.lst ws) => some ws | _ => none) := rfl
  rw [e1]
  unfold lenO
  cases M[k]? with
  | none => rfl
  | some mo => cases mo <;> rfl
@[simp] theorem lenO_l : lenO M (some (.lst ws)) = some (.d (.int (ws.length : Nat)), M) := rfl
def ixO (d : PyData) (M : MS) : Option MO → Option (W × MS)
  | some (.lst ws) => (match d with
    | .int i => (atI ws i).map fun w => (w, M)
    | _ => none)
  | some (.dic ks) => (keyOf d).bind fun q => (lookK ks q).map fun w => (w, M)
  | some (.dil ks) => (keyOf d).bind fun q => (lookK ks q).map fun w => (w, M)
  | _ => none
@[simp] theorem ixV_m : ixV (.m k) (.d d) M = ixO d M (M[k]?) := by
  show (match seqW M (.m k), d with
    | some ws, .int i => (atI ws i).map fun w => (w, M)
    | _, _ => match dicW M (.m k), keyOf d with
      | some ks, some k => (lookK ks k).map fun w => (w, M)
      | _, _ => none) = _
  have e1 : seqW M (.m k) = (match M[k]? with | some (.lst ws) => some ws | _ => none) := rfl
  have e2 : dicW M (.m k) = (match M[k]? with | some (.dic ks) => some ks | some (.dil ks) => some ks | _ => none) := rfl
  rw [e1, e2]
  unfold ixO
  cases M[k]? with
  | none => cases d <;> rfl
  | some mo => cases mo <;> cases d <;> rfl
@[simp] theorem ixO_l : ixO (.int i) M (some (.lst ws)) = (atI ws i).map fun w => (w, M) := rfl
@[simp] theorem ixO_k : ixO d M (some (.dic ks)) = (keyOf d).bind fun q => (lookK ks q).map fun w => (w, M) := rfl
def setO (d : PyData) (w : W) (k : Nat) (M : MS) : Option MO → Option MS
  | some (.lst ws) => setL ws d w k M
  | some (.dic ks) => setK ks d w k M
  | _ => none
@[simp] theorem setV_m : setV (.m k) (.d d) w M = setO d w k M (M[k]?) := rfl
@[simp] theorem setO_l : setO (.int i) w k M (some (.lst ws)) = (ixN ws.length i).map fun n => M.set k (.lst (ws.set n w)) := rfl
@[simp] theorem setO_k : setO d w k M (some (.dic ks)) = (keyOf d).bind fun q => if ks.length < sizeLine then some (M.set k (.dic (putW ks q w))) else none := rfl
def lstO (k : Nat) : Option MO → Option (Nat × List W)
  | some (.lst ws) => some (k, ws)
  | _ => none
@[simp] theorem lstM_m : lstM M (.m k) = lstO k (M[k]?) := rfl
@[simp] theorem lstO_l : lstO k (some (.lst ws)) = some (k, ws) := rfl
def rdO : Option MO → Option PyData
  | some (.lst ws) => (datsW ws).map .list
  | some (.dic ks) => (datKs ks).map dictK
  | _ => none
@[simp] theorem rdV_m : rd M (.m k) = rdO (M[k]?) := rfl
@[simp] theorem rdO_l : rdO (some (.lst ws)) = (datsW ws).map .list := rfl
@[simp] theorem rdO_k : rdO (some (.dic ks)) = (datKs ks).map dictK := rfl
@[simp] theorem keyOf_i : keyOf (.int i) = some (.inl i) := rfl
@[simp] theorem keyOf_s {q : Str} : keyOf (.str q) = some (.inr q) := rfl
@[simp] theorem ins_i {j : Nat} : insV j ws (.d (.int i)) y M = if ws.length < sizeLine ∧ 0 ≤ i ∧ i < 2 ^ 63 then some (.d .none, M.set j (.lst (ws.take i.toNat ++ [y] ++ ws.drop i.toNat))) else none := rfl
@[simp] theorem app_v {j : Nat} : appV j ws y M = if ws.length < sizeLine then some (.d .none, M.set j (.lst (ws ++ [y]))) else none := rfl
end
/-! a def's end -/
theorem finOk_refl (M : MS) : FinOk M M := fun k mo hk e => .inl e
theorem clB_dat {n : Nat} {ds : List PyData} : clB n (.lst (ds.map .d)) = true := by
  show (ds.map W.d).all _ = true
  rw [List.all_map]
  exact List.all_eq_true.mpr fun x _ => rfl
theorem finD_d {M0 M M' : MS} {x : PyData} (h : FinOk M0 M) (e : M.take M0.length = M') : finD M0 (.d x) M = .ok (.d x) M' := by
  unfold finD
  rw [if_pos h, e]
end Z

/-! S16: dict([(k, v) for tg in it if ..]). -/
namespace Z
open PySem PySem.Spec PyProof.Rows L2
/-- a pair of the list: a tuple outside region and cells -/
def TU (F : Hp) (ι : List Addr) (H : Hp) (L : Addr) (p : Addr) (kv : Key × V) : Prop := H p = some (.tup [kV kv.1, kv.2]) ∧ F p = none ∧ p ∉ ι ∧ p ≠ L
theorem TU.ext {F H F' H' : Hp} {ι ι' : List Addr} {L p : Addr} {kv : Key × V} (E : Ext F ι H F' ι' H') (h : TU F ι H L p kv) : TU F' ι' H' L p kv :=
  let ⟨a, b, c, d⟩ := h
  let ⟨a', b', c'⟩ := out_kept E a b c
  ⟨a', b', c', d⟩
theorem TUs.ext {F H F' H' : Hp} {ι ι' : List Addr} {L : Addr} (E : Ext F ι H F' ι' H') : ∀ {ps : List Addr} {us : List (Key × V)}, Paired (TU F ι H L) ps us → Paired (TU F' ι' H' L) ps us
  | _, _, .nil => .nil
  | _, _, .cons h t => .cons (h.ext E) (TUs.ext E t)
theorem TUs.put {F H : Hp} {ι : List Addr} {L q : Addr} {o : HO} (hq : H q = none ∨ q = L) : ∀ {ps : List Addr} {us : List (Key × V)}, Paired (TU F ι H L) ps us → Paired (TU F ι (upd H q o) L) ps us
  | _, _, .nil => .nil
  | _, _, .cons (a := p) h t => .cons (by
      obtain ⟨a, b, c, d⟩ := h
      refine ⟨?_, b, c, d⟩
      rw [upd_ne ?_]
      · exact a
      · rcases hq with z | z
        · exact fun y => by rw [y, z] at a; cases a
        · rw [z]; exact d) (TUs.put hq t)
theorem Paired.app {α β : Type} {R : α → β → Prop} : ∀ {xs xs' : List α} {ys ys' : List β}, Paired R xs ys → Paired R xs' ys' → Paired R (xs ++ xs') (ys ++ ys')
  | _, _, _, _, .nil, h => h
  | _, _, _, _, .cons a b, h => .cons a (Paired.app b h)
section
variable {X : Cx} {tg it kx vx : Expr} {ifs : List Expr} {scope : Scope} {Γ : GS} {M : MS} {pos pos2 p tp : Pos} {Φ : W → MS → Prop}
theorem dl_read {vs : List Nat} {F : Hp} {ι : List Addr} {σ : St} {H : Hp} {Φl : List (Key × W) → MS → Prop} {Q : VK} (S : Slots F ι σ Γ) (R : Rep F H ι M)
    (h : ZI X tg it Γ M fun ds M1 => ds.length < sizeLine ∧ ∃ I, DcT X vs tg kx vx ifs scope ds Γ M1 I Φl)
    (fin : ∀ L H' F' ι' M' acc ps us, Ext F ι H F' ι' H' → Rep F' H' ι' M' → H' L = some (.lst (ps.map V.ref)) → Paired (TU F' ι' H' L) ps us → RKs F' ι' (mergeK [] us) acc → F' L = none → L ∉ ι' → H L = none → Φl acc M' → Q (.ref L) H') :
    tLc (wI X tg it) (bG X scope tg) (bTs X scope ifs) (tTup (tCons (bE X scope kx) (tCons (bE X scope vx) tNil))) vs σ H Q := by
  refine (h F ι σ H R S).mono ?_
  rintro J H1 ⟨F1, ι1, M1, ds, E1, R1, yd, hlen, I, T⟩ L nL
  have nF1 : F1 L = none := R1.sub.free nL
  have nι1 : L ∉ ι1 := fun z => by
    obtain ⟨o, e⟩ := R1.tr L z
    rw [nL] at e; cases e
  have fresh : ∀ {F' : Hp} {ι' : List Addr} {H' : Hp} {M' : MS} {q : Addr}, Ext F ι H F' ι' H' → Rep F' H' ι' M' → H' q = none → H q = none ∧ F' q = none ∧ q ∉ ι' := fun {F' ι' H' M' q} E R' n => by
    have nι' : q ∉ ι' := fun z => by
      obtain ⟨o, e⟩ := R'.tr q z
      rw [n] at e; cases e
    have nι : q ∉ ι := fun z => by
      obtain ⟨r, rfl⟩ := E.pre
      exact nι' (List.mem_append_left r z)
    refine ⟨?_, R'.sub.free n, nι'⟩
    cases e : H q with
    | none => rfl
    | some o => rw [E.kp q o e nι] at n; cases n
  have nH : H L = none := (fresh E1 R1 nL).1
  let W : Nat → Hp → Prop := fun i H' => i ≤ ds.length ∧ ∃ F' ι' M' acc ps us, Ext F ι H F' ι' H' ∧ Kp F1 H1 F' H' ∧ Rep F' H' ι' M' ∧ H' L = some (.lst (ps.map V.ref)) ∧ ps.length ≤ i ∧ Paired (TU F' ι' H' L) ps us ∧ RKs F' ι' (mergeK [] us) acc ∧ F' L = none ∧ L ∉ ι' ∧ I i acc M'
  have put : ∀ {F' ι' H' q o}, H q = none → Ext F ι H F' ι' H' → Ext F ι H F' ι' (upd H' q o) := fun n E => ⟨E.same, E.pre, fun a x e m => by
    rw [upd_ne (ne_of_none e n)]; exact E.kp a x e m, E.fr, E.nw, fun a od u e => by rw [upd_ne (ne_of_none e n)]; exact E.fz a od u e⟩
  refine ⟨fun i m H' => m = ds.length - i ∧ W i H', ⟨ds.length, rfl, Nat.zero_le _, F1, ι1, M1, [], [], [], put nH E1, Kp.refl.put nL, out_put R1 nF1 nι1, upd_same, Nat.le_refl _, .nil, .nil, nF1, nι1, T.zero⟩, ?_⟩
  rintro i m H' ⟨rfl, hi, F2, ι2, M2, acc, ps, us, E2, s2, R2, hL, hpl, tu, ha, nF2, nι2, hI⟩
  have y := yd F2 H' s2 R2.sub i
  by_cases hlt : i < ds.length
  · obtain ⟨go, st⟩ := y.1 _ (List.getElem?_eq_getElem hlt)
    refine .inr ⟨go, W (i + 1), fun H3 w3 => ⟨ds.length - (i + 1), by omega, rfl, w3⟩, fun x H3 hy B => ?_⟩
    obtain ⟨F3, g, ax⟩ := st x H3 hy
    obtain ⟨E3, R3⟩ := R2.grow g
    have tn := T.turn i _ acc M2 (List.getElem?_eq_getElem hlt) hI
    refine wG.mono (tn B F3 ι2 _ H3 x R3 ((E3.slots (E2.slots S)).wipe vs) ax) ?_
    rintro σ4 H4 ⟨hw, F4, ι4, M4, Γ4, E4, R4, S4, h4⟩
    rw [wipe_wipe] at hw
    obtain ⟨hL3, nF3, nι3⟩ := out_kept E3 hL nF2 nι2
    obtain ⟨hL4, nF4, nι4⟩ := out_kept E4 hL3 nF3 nι3
    refine ⟨hw, fun B => wTs.mono (h4 B F4 ι4 σ4 H4 R4 S4) ?_⟩
    rintro b H5 ⟨F5, ι5, M5, E5, R5, h5⟩
    obtain ⟨hL5, nF5, nι5⟩ := out_kept E5 hL4 nF4 nι4
    have E25 := (((E2.trans E3).trans E4).trans E5)
    have s5 : Kp F1 H1 F5 H5 := ((s2.step E3).step E4).step E5
    have ha5 : RKs F5 ι5 (mergeK [] us) acc := ((E3.trans E4).trans E5).rks ha
    have tu5 : Paired (TU F5 ι5 H5 L) ps us := TUs.ext ((E3.trans E4).trans E5) tu
    cases b with
    | false =>
      rw [if_neg Bool.false_ne_true] at h5 ⊢
      exact ⟨hlt, F5, ι5, M5, acc, ps, us, E25, s5, R5, hL5, by omega, tu5, ha5, nF5, nι5, h5⟩
    | true =>
      rw [if_pos rfl] at h5 ⊢
      refine fun B => wE.mono (h5 B F5 ι5 σ4 H5 R5 (E5.slots S4)) ?_
      rintro y6 H6 ⟨F6, ι6, M6, yw, E6, R6, ry, h6⟩
      obtain ⟨hL6, nF6, nι6⟩ := out_kept E6 hL5 nF5 nι5
      refine fun B => wE.mono (h6 B F6 ι6 σ4 H6 R6 ((E5.trans E6).slots S4)) ?_
      rintro z H7 ⟨F7, ι7, M7, zw, E7, R7, rz, k, rfl, hz, h7⟩
      obtain ⟨hL7, nF7, nι7⟩ := out_kept E7 hL6 nF6 nι6
      have ha7 := (E6.trans E7).rks ha5
      have tu7 := TUs.ext (E6.trans E7) tu5
      have E27 := (E25.trans E6).trans E7
      have ek : y6 = kV k := kV_at ry
      subst ek
      refine ⟨by show 2 ≤ sizeLine; decide, fun q nq => ?_⟩
      obtain ⟨nHq, nFq, nιq⟩ := fresh E27 R7 nq
      have neL : q ≠ L := fun z => by rw [z, hL7] at nq; cases nq
      have hL8 : upd H7 q (.tup [kV k, z]) L = some (.lst (ps.map V.ref)) := by rw [upd_ne (Ne.symm neL)]; exact hL7
      have tu8 : Paired (TU F7 ι7 (upd H7 q (.tup [kV k, z])) L) ps us := TUs.put (.inl nq) tu7
      have tu9 : Paired (TU F7 ι7 (upd H7 q (.tup [kV k, z])) L) (ps ++ [q]) (us ++ [(k, z)]) := Paired.app tu8 (.cons ⟨upd_same, nFq, nιq, neL⟩ .nil)
      have em : mergeK [] (us ++ [(k, z)]) = putK (mergeK [] us) k z := by unfold mergeK; rw [List.foldl_append]; rfl
      refine ⟨ps.map V.ref, hL8, by rw [List.length_map]; omega, hlt, F7, ι7, M7, putW acc k zw, ps ++ [q], us ++ [(k, z)], put nH (put nHq E27), ((((s5.step E6).step E7).put1 nq).put nL), out_put (out_put R7 nFq nιq) nF7 nι7, ?_, ?_, TUs.put (.inr rfl) tu9, ?_, nF7, nι7, h7⟩
      · rw [upd_same, List.map_append]; rfl
      · rw [List.length_append]; show ps.length + 1 ≤ i + 1; omega
      · rw [em]; exact ha7.put rz
  · have e : i = ds.length := by omega
    subst e
    exact .inl ⟨y.2 (Nat.le_refl _), fin L H' F2 ι2 M2 acc ps us E2 R2 hL tu ha nF2 nι2 nH (T.done acc M2 hI)⟩
theorem sqt_of {K : PySem.W.Frag} {F H : Hp} {ι : List Addr} {L : Addr} : ∀ {ps : List Addr} {us : List (Key × V)}, Paired (TU F ι H L) ps us → Paired (fun p kv => SqT K H p [kV kv.1, kv.2]) ps us
  | _, _, .nil => .nil
  | _, _, .cons h t => .cons (SqT.of h.1) (sqt_of t)
theorem ze_dlM {own : List (Str × Nat)} {n : Nat} (hc : X.calm = true) (hN : X.N.Nodup) (ok : BlkOk X.N X.env.scope scope own) (hg : Gl X "dict") (hm : X.mg "dict" = none) (nk : noStar kx = true) (nv : noStar vx = true)
    (h : ZI X tg it Γ M fun ds M1 => ds.length < sizeLine ∧ ∃ I, DcT X (own.map (·.2)) tg kx vx ifs scope ds Γ M1 I fun acc M2 => Φ (.m M2.length) (M2 ++ [.dic acc])) (hs : ∀ x, foldedSetIterable it X.env x = pure x) :
    ZE X (.Call (.Name "dict" p) [.ListComp (.Tuple [kx, vx] n tp) [⟨tg, it, ifs, 0⟩] scope pos] [] pos2) Γ M Φ := fun F ι σ H R S => by
  refine w_e (pe_callTy (call_dictP hc) hg hm bt_dict (pa_cons (pe_lc (ifs := ifs) hc hN pi_w ok (pg_b (tg := tg)) pts_b (fun s H C cl fp => pe_tup (pa_cons (pe_b s H C cl fp) (pa_cons (pe_b s H C cl fp) pa_nil (star_of nv)) (star_of nk))) hs) pa_nil (star_of rfl)) (he := star_of rfl)) ?_
  show tCons (tLc (wI X tg it) (bG X scope tg) (bTs X scope ifs) (tTup (tCons (bE X scope kx) (tCons (bE X scope vx) tNil))) (own.map (·.2))) tNil σ H fun xs H1 => ∃ (a : Addr) (ps : List Addr) (kvs : List (Key × V)), xs = [.ref a] ∧ SqL X.K H1 a (ps.map V.ref) ∧ Paired (fun p kv => SqT X.K H1 p [kV kv.1, kv.2]) ps kvs ∧
    ∀ p, H1 p = none → Post F ι H Φ (.ref p) (upd H1 p (.dK (mergeK [] kvs)))
  refine dl_read (Q := fun v H1 => ∃ (a : Addr) (ps : List Addr) (kvs : List (Key × V)), [v] = [.ref a] ∧ SqL X.K H1 a (ps.map V.ref) ∧ Paired (fun p kv => SqT X.K H1 p [kV kv.1, kv.2]) ps kvs ∧
    ∀ p, H1 p = none → Post F ι H Φ (.ref p) (upd H1 p (.dK (mergeK [] kvs)))) S R h ?_
  rintro L H' F' ι' M' acc ps us E R' hL tu ha nF nι nH φ
  refine ⟨L, ps, us, rfl, SqL.of hL, sqt_of tu, fun q nq => ?_⟩
  have nι' : q ∉ ι' := fun z => by
    obtain ⟨o, e⟩ := R'.tr q z
    rw [nq] at e; cases e
  have nHq : H q = none := by
    cases e : H q with
    | none => rfl
    | some o =>
      have nι : q ∉ ι := fun z => by
        obtain ⟨r, rfl⟩ := E.pre
        exact nι' (List.mem_append_left r z)
      rw [E.kp q o e nι] at nq; cases nq
  have nFq : F' q = none := R'.sub.free nq
  have E1 : Ext F ι H F' ι' (upd H' q (.dK (mergeK [] us))) := ⟨E.same, E.pre, fun a x e m => by
    rw [upd_ne (ne_of_none e nHq)]; exact E.kp a x e m, E.fr, E.nw, fun a od u e => by rw [upd_ne (ne_of_none e nHq)]; exact E.fz a od u e⟩
  obtain ⟨E2, R2⟩ := out_cell (mo := .dic acc) E1 (out_put R' nFq nι') upd_same nFq nι' nHq ⟨_, rfl, ha⟩
  exact ⟨_, _, _, .m M'.length, E2, R2, RW.m (by rw [← R'.len, List.getElem?_append_right (Nat.le_refl _)]; simp), φ⟩
theorem ze_dl {own : List (Str × Nat)} {n : Nat} (hc : X.calm = true) (hN : X.N.Nodup) (ok : BlkOk X.N X.env.scope scope own) (hg : Gl X "dict") (hm : X.mg "dict" = none) (nk : noStar kx = true) (nv : noStar vx = true)
    (h : ZI X tg it Γ M fun ds M1 => ds.length < sizeLine ∧ ∃ I, DcT X (own.map (·.2)) tg kx vx ifs scope ds Γ M1 I fun acc M2 => ∃ kws, acc = kws.map (fun q => (q.1, W.d q.2)) ∧ Φ (.d (dictK kws)) M2) (hs : ∀ x, foldedSetIterable it X.env x = pure x) :
    ZE X (.Call (.Name "dict" p) [.ListComp (.Tuple [kx, vx] n tp) [⟨tg, it, ifs, 0⟩] scope pos] [] pos2) Γ M Φ := fun F ι σ H R S => by
  refine w_e (pe_callTy (call_dictP hc) hg hm bt_dict (pa_cons (pe_lc (ifs := ifs) hc hN pi_w ok (pg_b (tg := tg)) pts_b (fun s H C cl fp => pe_tup (pa_cons (pe_b s H C cl fp) (pa_cons (pe_b s H C cl fp) pa_nil (star_of nv)) (star_of nk))) hs) pa_nil (star_of rfl)) (he := star_of rfl)) ?_
  show tCons (tLc (wI X tg it) (bG X scope tg) (bTs X scope ifs) (tTup (tCons (bE X scope kx) (tCons (bE X scope vx) tNil))) (own.map (·.2))) tNil σ H fun xs H1 => ∃ (a : Addr) (ps : List Addr) (kvs : List (Key × V)), xs = [.ref a] ∧ SqL X.K H1 a (ps.map V.ref) ∧ Paired (fun p kv => SqT X.K H1 p [kV kv.1, kv.2]) ps kvs ∧
    ∀ p, H1 p = none → Post F ι H Φ (.ref p) (upd H1 p (.dK (mergeK [] kvs)))
  refine dl_read (Q := fun v H1 => ∃ (a : Addr) (ps : List Addr) (kvs : List (Key × V)), [v] = [.ref a] ∧ SqL X.K H1 a (ps.map V.ref) ∧ Paired (fun p kv => SqT X.K H1 p [kV kv.1, kv.2]) ps kvs ∧
    ∀ p, H1 p = none → Post F ι H Φ (.ref p) (upd H1 p (.dK (mergeK [] kvs)))) S R h ?_
  rintro L H' F' ι' M' acc ps us E R' hL tu ha nF nι nH ⟨kws, rfl, φ⟩
  refine ⟨L, ps, us, rfl, SqL.of hL, sqt_of tu, fun q nq => ?_⟩
  have nι' : q ∉ ι' := fun z => by
    obtain ⟨o, e⟩ := R'.tr q z
    rw [nq] at e; cases e
  have nHq : H q = none := by
    cases e : H q with
    | none => rfl
    | some o =>
      have nι : q ∉ ι := fun z => by
        obtain ⟨r, rfl⟩ := E.pre
        exact nι' (List.mem_append_left r z)
      rw [E.kp q o e nι] at nq; cases nq
  have nFq : F' q = none := R'.sub.free nq
  have E1 : Ext F ι H F' ι' (upd H' q (.dK (mergeK [] us))) := ⟨E.same, E.pre, fun a x e m => by
    rw [upd_ne (ne_of_none e nHq)]; exact E.kp a x e m, E.fr, E.nw, fun a od u e => by rw [upd_ne (ne_of_none e nHq)]; exact E.fz a od u e⟩
  obtain ⟨E2, R2⟩ := out_lay E1 (out_put R' nFq nι') upd_same nFq nι' nHq
  have sF : Same F' (upd F' q (.dK (mergeK [] us))) := fun b x e => by rw [upd_ne (ne_of_none e nFq)]; exact e
  exact ⟨_, _, _, .d (dictK kws), E2, R2, .dat (.dic upd_same ((RKs.dat ha).up sF)), φ⟩
theorem dl_ex {own : List (Str × Nat)} {n : Nat} {σ : St} {H : Hp} {Q : VK} (hc : X.calm = true) (hN : X.N.Nodup) (ok : BlkOk X.N X.env.scope scope own) (hg : Gl X "dict") (hm : X.mg "dict" = none) (nk : noStar kx = true) (nv : noStar vx = true) (hs : ∀ x, foldedSetIterable it X.env x = pure x) (h : wI X tg it σ H fun _ _ => False) :
    wE X (.Call (.Name "dict" p) [.ListComp (.Tuple [kx, vx] n tp) [⟨tg, it, ifs, 0⟩] scope pos] [] pos2) σ H Q := 
  w_e (pe_callTy (call_dictP hc) hg hm bt_dict (pa_cons (pe_lc (ifs := ifs) hc hN pi_w ok (pg_b (tg := tg)) pts_b (fun s H C cl fp => pe_tup (pa_cons (pe_b s H C cl fp) (pa_cons (pe_b s H C cl fp) pa_nil (star_of nv)) (star_of nk))) hs) pa_nil (star_of rfl)) (he := star_of rfl)) (h.mono fun _ _ z => False.elim z)
theorem se_dl {own : List (Str × Nat)} {n : Nat} {i : IF} {g : TGF} {t : TF} {fk fv : EF} (hm : X.mg "dict" = none) (hc : X.calm = true) (hN : X.N.Nodup) (ok : BlkOk X.N X.env.scope scope own) (hi : SI X tg it i) (hg : ∀ B, SGB (bk X scope B) (own.map (·.2)) tg g) (ht : ∀ B, STs (bk X scope B) ifs t) (hk : ∀ B, SE (bk X scope B) kx fk) (hv : ∀ B, SE (bk X scope B) vx fv)
    (hs : ∀ x, foldedSetIterable it X.env x = pure x := by intro _; rfl) (hgl : Gl X "dict" := by rfl) (nk : noStar kx = true := by rfl) (nv : noStar vx = true := by rfl) : SE X (.Call (.Name "dict" p) [.ListComp (.Tuple [kx, vx] n tp) [⟨tg, it, ifs, 0⟩] scope pos] [] pos2) (dcE mkD (own.map (·.2)) i g t fk fv) := fun Γ M => by
  have q := hi Γ M
  unfold dcE
  cases e1 : i Γ M with
  | bad => exact .bad
  | ex x M' => rw [e1] at q; exact fun F ι σ H R S A => dl_ex hc hN ok hgl hm nk nv hs (q F ι σ H R S A)
  | ok ds M1 =>
    rw [e1] at q
    rw [bind_ok]
    unfold dcR
    by_cases hl : ds.length < sizeLine
    · rw [if_pos hl]
      cases e2 : dcL g t fk fv (wipeG Γ (own.map (·.2))) ds [] M1 with
      | bad => exact .bad
      | ex _ _ => exact absurd e2 (dcL_ne _ _ _ _)
      | ok ws M2 =>
        rw [bind_ok]
        unfold mkD
        cases ed : datKs ws with
        | some ys => exact .of (ze_dl hc hN ok hgl hm nk nv (q _ ⟨hl, dcT_of hg ht hk hv e2 hl ⟨ys, datKs_ok ed, rfl, rfl⟩⟩) hs)
        | none => exact .of (ze_dlM hc hN ok hgl hm nk nv (q _ ⟨hl, dcT_of hg ht hk hv e2 hl ⟨rfl, rfl⟩⟩) hs)
    · rw [if_neg hl]; exact .bad
theorem se_dlM {own : List (Str × Nat)} {n : Nat} {i : IF} {g : TGF} {t : TF} {fk fv : EF} (hm : X.mg "dict" = none) (hc : X.calm = true) (hN : X.N.Nodup) (ok : BlkOk X.N X.env.scope scope own) (hi : SI X tg it i) (hg : ∀ B, SGB (bk X scope B) (own.map (·.2)) tg g) (ht : ∀ B, STs (bk X scope B) ifs t) (hk : ∀ B, SE (bk X scope B) kx fk) (hv : ∀ B, SE (bk X scope B) vx fv)
    (hs : ∀ x, foldedSetIterable it X.env x = pure x := by intro _; rfl) (hgl : Gl X "dict" := by rfl) (nk : noStar kx = true := by rfl) (nv : noStar vx = true := by rfl) : SE X (.Call (.Name "dict" p) [.ListComp (.Tuple [kx, vx] n tp) [⟨tg, it, ifs, 0⟩] scope pos] [] pos2) (dcE mkDM (own.map (·.2)) i g t fk fv) := fun Γ M => by
  have q := hi Γ M
  unfold dcE
  cases e1 : i Γ M with
  | bad => exact .bad
  | ex x M' => rw [e1] at q; exact fun F ι σ H R S A => dl_ex hc hN ok hgl hm nk nv hs (q F ι σ H R S A)
  | ok ds M1 =>
    rw [e1] at q
    rw [bind_ok]
    unfold dcR
    by_cases hl : ds.length < sizeLine
    · rw [if_pos hl]
      cases e2 : dcL g t fk fv (wipeG Γ (own.map (·.2))) ds [] M1 with
      | bad => exact .bad
      | ex _ _ => exact absurd e2 (dcL_ne _ _ _ _)
      | ok ws M2 => exact .of (ze_dlM hc hN ok hgl hm nk nv (q _ ⟨hl, dcT_of hg ht hk hv e2 hl ⟨rfl, rfl⟩⟩) hs)
    · rw [if_neg hl]; exact .bad
end
end Z

/-! S17: a dict cell locked while an expression runs; its keys walked. -/
namespace Z
open PySem PySem.Spec PyProof.Rows L2
/-- a cell is overwritten, whatever stood there -/
theorem Rep.put2 {F H : Hp} {ι : List Addr} {M : MS} (R : Rep F H ι M) {k : Nat} {a : Addr} {o : HO} {mo m0 : MO} (ha : ι[k]? = some a) (hm : M[k]? = some m0) (hg : m0 ≠ .gone) (h : MOk F ι mo o) : Rep F (upd H a o) ι (M.set k mo) := by
  have hk : k < M.length := (List.getElem?_eq_some_iff.mp hm).1
  obtain ⟨nF, _⟩ : F a = none ∧ ∃ o, H a = some o ∧ MOk F ι m0 o := (R.at_ k a m0 ha hm).resolve_left hg
  have mem : a ∈ ι := List.mem_of_getElem? ha
  refine ⟨?_, by simp [R.len], R.nd, fun b hb => ?_, fun j b mo' h1 h2 => ?_⟩
  · intro b x e
    rw [upd_ne (ne_of_none e nF)]; exact R.sub b x e
  · by_cases z : b = a
    · subst z; exact ⟨o, upd_same⟩
    · obtain ⟨x, e⟩ := R.tr b hb
      exact ⟨x, by rw [upd_ne z]; exact e⟩
  · by_cases hj : k = j
    · subst hj
      rw [ha] at h1; cases h1
      rw [List.getElem?_set_self hk] at h2; cases h2
      exact .inr ⟨nF, o, upd_same, h⟩
    · rw [List.getElem?_set_ne hj] at h2
      rcases R.at_ j b mo' h1 h2 with z | ⟨z1, x, z2, z3⟩
      · exact .inl z
      · have nb : b ≠ a := fun z => by
          subst z
          exact hj ((List.getElem?_inj (List.getElem?_eq_some_iff.mp ha).1 R.nd).mp (ha.trans h1.symm))
        exact .inr ⟨z1, x, by rw [upd_ne nb]; exact z2, z3⟩
def cellG (Γ : GS) (i : Nat) : Option Nat := match Γ[i]? with
  | some (some (.m j)) => some j
  | _ => none
def dicM (M : MS) (j : Nat) : Option (List (Key × W)) := match M[j]? with
  | some (.dic ks) => some ks
  | _ => none
def dilM (M : MS) (j : Nat) : Option (List (Key × W)) := match M[j]? with
  | some (.dil ks) => some ks
  | _ => none
def unlockR (j : Nat) : Res W → Res W
  | .ok w M => match dilM M j with
    | some ks => .ok w (M.set j (.dic ks))
    | none => .bad
  | _ => .bad
/-- the expression runs while the dict at slot i is locked -/
def lockE (i : Nat) (f : EF) : EF := fun Γ M => match cellG Γ i with
  | some j => (match dicM M j with
    | some ks => unlockR j (f Γ (M.set j (.dil ks)))
    | none => .bad)
  | none => .bad
def keyD' (q : Key × W) : PyData := keyD q.1
def keysI (i : Nat) : IF := fun Γ M => match cellG Γ i with
  | some j => (match dilM M j with
    | some ks => .ok (ks.map keyD') M
    | none => .bad)
  | none => .bad
section
variable {X : Cx} {e tg it : Expr} {f : EF} {p pos : Pos}
theorem cellG_ok {Γ : GS} {i j : Nat} (h : cellG Γ i = some j) : Γ[i]? = some (some (.m j)) := by
  unfold cellG at h
  split at h
  · cases h; assumption
  · cases h
theorem dicM_ok {M : MS} {j : Nat} {ks : List (Key × W)} (h : dicM M j = some ks) : M[j]? = some (.dic ks) := by
  unfold dicM at h
  split at h
  · cases h; assumption
  · cases h
theorem dilM_ok {M : MS} {j : Nat} {ks : List (Key × W)} (h : dilM M j = some ks) : M[j]? = some (.dil ks) := by
  unfold dilM at h
  split at h
  · cases h; assumption
  · cases h
theorem se_lock (i : Nat) (h : SE X e f) : SE X e (lockE i f) := fun Γ M => by
  unfold lockE
  cases e1 : cellG Γ i with
  | none => exact .bad
  | some j =>
    dsimp only
    cases e2 : dicM M j with
    | none => exact .bad
    | some ks =>
      dsimp only
      have q := h Γ (M.set j (.dil ks))
      cases e3 : f Γ (M.set j (.dil ks)) with
      | bad => exact .bad
      | ex _ _ => exact .bad
      | ok w M' =>
        rw [e3] at q
        show SR X e Γ M (match dilM M' j with
          | some ks => .ok w (M'.set j (.dic ks))
          | none => .bad)
        cases e4 : dilM M' j with
        | none => exact .bad
        | some k2 =>
          intro F ι σ H R S _
          have hm := dicM_ok e2
          have hm2 := dilM_ok e4
          obtain ⟨v, _, a, ha, _⟩ := S.get i _ (cellG_ok e1)
          obtain ⟨nF, o, hH, kvs, rfl, rk⟩ := (R.at_ j a _ ha hm).resolve_left (by intro z; cases z)
          have mem : a ∈ ι := List.mem_of_getElem? ha
          refine w_e (pe_lock pe_w) ⟨a, .dK kvs, hH, trivial, fun od => ?_⟩
          have R1 : Rep F (upd H a (.frz od (.dK kvs))) ι (M.set j (.dil ks)) := R.put2 ha hm (by intro z; cases z) ⟨od, kvs, rfl, rk⟩
          refine (q F ι σ _ R1 S trivial).mono ?_
          rintro v H' ⟨F', ι', M2, w2, E, R2, r, rfl, rfl⟩
          have hf : H' a = some (.frz od (.dK kvs)) := E.fz a od _ upd_same
          obtain ⟨t, et⟩ := E.pre
          have ha2 : ι'[j]? = some a := by rw [et, List.getElem?_append_left (List.getElem?_eq_some_iff.mp ha).1]; exact ha
          obtain ⟨nF2, o2, hH2, od2, kvs2, rfl, rk2⟩ := (R2.at_ j a _ ha2 hm2).resolve_left (by intro z; cases z)
          rw [hf] at hH2
          cases hH2
          refine ⟨hf, F', ι', _, _, ⟨E.same, E.pre, fun b x eb nb => ?_, fun b h1 h2 => ?_, fun b x eb n => ?_, fun b od' u eb => ?_⟩, R2.put2 ha2 hm2 (by intro z; cases z) (mo := .dic k2) ⟨kvs, rfl, rk2⟩, r, rfl, rfl⟩
          · have ne : b ≠ a := fun z => nb (by rw [z]; exact mem)
            rw [upd_ne ne]
            exact E.kp b x (by rw [upd_ne ne]; exact eb) nb
          · have ne : b ≠ a := fun z => h2 (by rw [z]; exact mem)
            have := E.fr b h1 h2
            rwa [upd_ne ne] at this
          · by_cases z : b = a
            · exact .inr (by rw [z]; exact mem)
            · rcases E.nw b x eb n with y | y
              · rw [upd_ne z] at y; exact .inl y
              · exact .inr y
          · have ne : b ≠ a := fun z => by rw [z, hH] at eb; cases eb
            rw [upd_ne ne]
            exact E.fz b od' u (by rw [upd_ne ne]; exact eb)
theorem at_kV {F : Hp} : ∀ k : Key, At F (kV k) (keyD k)
  | .inl i => At.int i
  | .inr x => At.str x
theorem rks_get {F : Hp} {ι : List Addr} : ∀ {vs : List (Key × V)} {ws : List (Key × W)} {i : Nat} {d : PyData}, RKs F ι vs ws → (ws.map keyD')[i]? = some d → ∃ k v, vs[i]? = some (k, v) ∧ d = keyD k
  | _, _, i, d, .nil, e => by simp at e
  | _, _, 0, d, .cons (a := (k, v)) (b := (k2, w)) h t, e => by
    cases e
    have hk : k = k2 := h.1
    exact ⟨k, v, rfl, by show keyD k2 = keyD k; rw [hk]⟩
  | _, _, i + 1, d, .cons h t, e => by
    rw [List.map_cons, List.getElem?_cons_succ] at e
    obtain ⟨k, v, e1, e2⟩ := rks_get t e
    exact ⟨k, v, by rw [List.getElem?_cons_succ]; exact e1, e2⟩
theorem yld_keys {F H1 : Hp} {ι : List Addr} {a : Addr} {od : Obj} {kvs : List (Key × V)} {ks : List (Key × W)} (hH : H1 a = some (.frz od (.dK kvs))) (rk : RKs F ι kvs ks) : Yld F H1 (Itk a od kvs) (ks.map keyD') := fun F' H k s2 i => by
  have hz := k.z _ _ _ hH
  have hl : kvs.length = ks.length := rk.len
  refine ⟨fun d e => ?_, fun h => ⟨hz, by rw [List.length_map] at h; omega⟩⟩
  obtain ⟨kk, v, ek, rfl⟩ := rks_get rk e
  refine ⟨⟨hz, (List.getElem?_eq_some_iff.mp ek).1⟩, fun x H' ⟨eH, k2, v2, e2, ex⟩ => ?_⟩
  rw [ek] at e2
  cases e2
  subst eH ex
  exact ⟨F', .refl s2, at_kV kk⟩
theorem si_keys {x : Str} (i : Nat) (h : SE X (.Name x p) (nmE i)) : SI X tg (.Name x p) (keysI i) := fun Γ M => by
  unfold keysI
  cases e1 : cellG Γ i with
  | none => trivial
  | some j =>
    dsimp only
    cases e2 : dilM M j with
    | none => trivial
    | some ks =>
      intro Ψ ψ F ι σ H R S
      have q := h Γ M
      have en : nmE i Γ M = .ok (.m j) M := by unfold nmE getG; rw [cellG_ok e1]
      rw [en] at q
      refine w_i (pi_keys pe_w) ((q F ι σ H R S trivial).mono ?_)
      rintro v H1 ⟨F1, ι1, M1, w1, E, R1, r, e3, e4⟩
      subst e3 e4
      obtain ⟨a, ha, rfl⟩ := r
      obtain ⟨nF, o, hH, od, kvs, rfl, rk⟩ := (R1.at_ j a _ ha (dilM_ok e2)).resolve_left (by intro z; cases z)
      exact ⟨a, od, rfl, .inl ⟨kvs, hH, F1, ι1, _, _, E, R1, yld_keys hH rk, ψ⟩⟩
end
end Z

/-! S18: two readings of one expression; what simp needs of dicts made and locked. -/
namespace Z
open PySem PySem.Spec PyProof.Rows L2
/-- the first operator that says something -/
def altV (f g : W → MS → Option (W × MS)) (x : W) (M : MS) : Option (W × MS) := match f x M with
  | some r => some r
  | none => g x M
theorem se_altV {X : Cx} {e : Expr} {f g : W → MS → Option (W × MS)} {h : EF} (h1 : SE X e (unE f h)) (h2 : SE X e (unE g h)) : SE X e (unE (altV f g) h) := fun Γ M => by
  have a := h1 Γ M
  have b := h2 Γ M
  unfold unE at a b ⊢
  cases e0 : h Γ M with
  | bad => exact .bad
  | ex x M1 => rw [e0] at a; exact a
  | ok x M1 =>
    rw [e0, bind_ok] at a b
    rw [bind_ok]
    unfold altV
    cases e1 : f x M1 with
    | some r => rw [e1] at a; exact a
    | none => exact b
theorem ofStr_inj' {a b : String} (h : Str.ofString a = Str.ofString b) : a = b := by
  rw [Str.ofString_eq_toList, Str.ofString_eq_toList] at h
  have h1 := congrArg (fun s : Str => s.cps.toList) h
  simp only at h1
  have h2 : a.toList = b.toList := (List.map_inj_right (fun x y e => Char.ext (UInt32.toNat_inj.mp e))).mp h1
  rw [← String.ofList_toList (s := a), h2, String.ofList_toList]
@[simp] theorem ofStr_inj {a b : String} : (Str.ofString a = Str.ofString b) = (a = b) := propext ⟨ofStr_inj', fun h => by rw [h]⟩
example : (Str.ofString "merge" = Str.ofString "come") = False := by simp
section
variable {Γ : GS} {M M1 M2 : MS} {f g h : EF} {t u : TF} {x y w : W} {e : Exc} {ws : List W} {ds : List PyData} {ks : List (Key × W)}
def alt2 (o : Option (W × MS)) (g : W → MS → Option (W × MS)) (x : W) (M : MS) : Option (W × MS) := match o with
  | some r => some r
  | none => g x M
@[simp] theorem altV_ap {f g : W → MS → Option (W × MS)} : altV f g (.d (.list ds)) M = alt2 (f (.d (.list ds)) M) g (.d (.list ds)) M := rfl
@[simp] theorem alt2_some {g : W → MS → Option (W × MS)} {r : W × MS} : alt2 (some r) g x M = some r := rfl
@[simp] theorem alt2_none {g : W → MS → Option (W × MS)} : alt2 none g x M = g x M := rfl
@[simp] theorem cellG_z {k : Nat} : cellG (some (.m k) :: Γ) 0 = some k := rfl
@[simp] theorem cellG_s {o : Option W} {n : Nat} : cellG (o :: Γ) (n + 1) = cellG Γ n := rfl
def dicO : Option MO → Option (List (Key × W))
  | some (.dic ks) => some ks
  | _ => none
def dilO : Option MO → Option (List (Key × W))
  | some (.dil ks) => some ks
  | _ => none
@[simp] theorem dicM_ap {j : Nat} : dicM M j = dicO (M[j]?) := by unfold dicM dicO; rfl
@[simp] theorem dilM_ap {j : Nat} : dilM M j = dilO (M[j]?) := by unfold dilM dilO; rfl
@[simp] theorem dicO_d : dicO (some (.dic ks)) = some ks := rfl
@[simp] theorem dilO_d : dilO (some (.dil ks)) = some ks := rfl
def lock2 (o : Option Nat) (f : EF) (Γ : GS) (M : MS) : Res W := match o with
  | some j => (match dicM M j with
    | some ks => unlockR j (f Γ (M.set j (.dil ks)))
    | none => .bad)
  | none => .bad
def lock3 (j : Nat) (o : Option (List (Key × W))) (f : EF) (Γ : GS) (M : MS) : Res W := match o with
  | some ks => unlockR j (f Γ (M.set j (.dil ks)))
  | none => .bad
@[simp] theorem lockE_ap {i : Nat} : lockE i f Γ M = lock2 (cellG Γ i) f Γ M := rfl
@[simp] theorem lock2_some {j : Nat} : lock2 (some j) f Γ M = lock3 j (dicM M j) f Γ M := rfl
@[simp] theorem lock3_some {j : Nat} : lock3 j (some ks) f Γ M = unlockR j (f Γ (M.set j (.dil ks))) := rfl
def unlock2 (j : Nat) (w : W) (M : MS) : Option (List (Key × W)) → Res W
  | some ks => .ok w (M.set j (.dic ks))
  | none => .bad
@[simp] theorem unlock_ok {j : Nat} : unlockR j (.ok w M) = unlock2 j w M (dilM M j) := by
  show (match dilM M j with
    | some ks => Res.ok w (M.set j (.dic ks))
    | none => .bad) = _
  cases dilM M j <;> rfl
@[simp] theorem unlock2_some {j : Nat} : unlock2 j w M (some ks) = .ok w (M.set j (.dic ks)) := rfl
def keys2 (o : Option Nat) (M : MS) : Res (List PyData) := match o with
  | some j => (match dilM M j with
    | some ks => .ok (ks.map keyD') M
    | none => .bad)
  | none => .bad
def keys3 (o : Option (List (Key × W))) (M : MS) : Res (List PyData) := match o with
  | some ks => .ok (ks.map keyD') M
  | none => .bad
@[simp] theorem keysI_ap {i : Nat} : keysI i Γ M = keys2 (cellG Γ i) M := rfl
@[simp] theorem keys2_some {j : Nat} : keys2 (some j) M = keys3 (dilM M j) M := rfl
@[simp] theorem keys3_some : keys3 (some ks) M = .ok (ks.map keyD') M := rfl
@[simp] theorem datsW_rows {v : List Int} : datsW (rowsW v) = some (v.map .int) := by unfold rowsW; rw [datsW_map]
def allO : Option MO → Option (List PyData)
  | some (.lst ws) => datsW ws
  | _ => none
@[simp] theorem allD_m {M : MS} {k : Nat} : allD M (.m k) = allO (M[k]?) := by
  unfold allD
  rw [rdV_m]
  cases M[k]? with
  | none => rfl
  | some o =>
    cases o with
    | lst ws =>
      show (match (datsW ws).map PyData.list with
        | some (.list ds) => some ds
        | some (.tuple ds) => some ds
        | _ => none) = datsW ws
      cases datsW ws <;> rfl
    | dic ks =>
      show (match (datKs ks).map dictK with
        | some (.list ds) => some ds
        | some (.tuple ds) => some ds
        | _ => none) = none
      cases datKs ks <;> rfl
    | gone => rfl
    | dil ks => rfl
@[simp] theorem allO_l {ws : List W} : allO (some (.lst ws)) = datsW ws := rfl
@[simp] theorem lstD_m {M : MS} {k : Nat} : lstD M (.m k) = allO (M[k]?) := by
  unfold lstD
  rw [rdV_m]
  cases M[k]? with
  | none => rfl
  | some o =>
    cases o with
    | lst ws =>
      show (match (datsW ws).map PyData.list with
        | some (.list ds) => some ds
        | _ => none) = datsW ws
      cases datsW ws <;> rfl
    | dic ks =>
      show (match (datKs ks).map dictK with
        | some (.list ds) => some ds
        | _ => none) = none
      cases datKs ks <;> rfl
    | gone => rfl
    | dil ks => rfl
@[simp] theorem slM_ap {M : MS} {x : W} {lo hi : Option Int} : slMV x lo hi M = (lstD M x).map fun ds => (.m M.length, M ++ [.lst ((cutD ds lo hi).map .d)]) := rfl
@[simp] theorem datsW_app {xs ys : List W} : datsW (xs ++ ys) = (datsW xs).bind fun a => (datsW ys).map fun b => a ++ b := by
  induction xs with
  | nil => simp
  | cons x xs ih =>
    cases x with
    | d x => simp [ih]; cases datsW xs <;> simp [Function.comp_def]
    | m k => simp
@[simp] theorem intsD_nil : intsD [] = some [] := rfl
@[simp] theorem intsD_cons {i : Int} {ds : List PyData} : intsD (.int i :: ds) = (intsD ds).map (i :: ·) := by rw [intsD]
@[simp] theorem intsD_app {v : List Int} {ds : List PyData} : intsD (v.map PyData.int ++ ds) = (intsD ds).map (v ++ ·) := by
  induction v with
  | nil => simp
  | cons i v ih => simp [ih]; cases intsD ds <;> simp [Function.comp_def]
@[simp] theorem sortM_ap {x : W} {M : MS} : sortMV x M = (lstD M x).bind fun ds => (intsD ds).map fun ns => (.m M.length, M ++ [.lst (rowsW (sortI ns))]) := by
  unfold sortMV rowsW; rfl
def add2 (M : MS) : Option (List PyData) → Option (List PyData) → Option (W × MS)
  | some i, some j => chk (i.length + j.length) (some (.d (.list (i ++ j)), M))
  | _, _ => none
@[simp] theorem add2_some {a b : List PyData} {M : MS} : add2 M (some a) (some b) = chk (a.length + b.length) (some (.d (.list (a ++ b)), M)) := rfl
@[simp] theorem add_mm {k l : Nat} {M : MS} : addV (.m k) (.m l) M = add2 M (lstD M (.m k)) (lstD M (.m l)) := rfl
@[simp] theorem add_md {k : Nat} {es : List PyData} {M : MS} : addV (.m k) (.d (.list es)) M = add2 M (lstD M (.m k)) (some es) := rfl
@[simp] theorem add_dm {k : Nat} {es : List PyData} {M : MS} : addV (.d (.list es)) (.m k) M = add2 M (some es) (lstD M (.m k)) := rfl
@[simp] theorem rowsW_getE {v : List Int} {i : Nat} (h : i < (rowsW v).length) : (rowsW v)[i] = .d (.int (v[i]'(by rw [rowsW_len] at h; exact h))) := by
  simp [rowsW]
def dcM (mk : List (Key × W) → MS → Option (W × MS)) (r : Res (List (Key × W))) : Res W := r.bind fun ws M2 => Res.of (mk ws M2)
@[simp] theorem dcR_ap {mk : List (Key × W) → MS → Option (W × MS)} {tg : TGF} {t : TF} {fk fv : EF} {vs : List Nat} {Γ : GS} {ds : List PyData} {M : MS} : dcR mk tg t fk fv vs Γ ds M = if ds.length < sizeLine then dcM mk (dcL tg t fk fv (wipeG Γ vs) ds [] M) else .bad := rfl
@[simp] theorem dcM_ok {mk : List (Key × W) → MS → Option (W × MS)} {ks : List (Key × W)} {M : MS} : dcM mk (.ok ks M) = Res.of (mk ks M) := rfl
@[simp] theorem ixO_dil {d : PyData} {ks : List (Key × W)} {M : MS} : ixO d M (some (.dil ks)) = (keyOf d).bind fun q => (lookK ks q).map fun w => (w, M) := rfl
@[simp] theorem rowsW_nil : rowsW [] = [] := rfl
@[simp] theorem rowsW_length {v : List Int} : (rowsW v).length = v.length := rowsW_len v
end
end Z

/-! S19: == of dicts, of a text and a dict. -/
namespace PySem.SeqAt
open PySem.Spec PyProof.Rows L2
open AutoSeq1 (wpAny_loadPart')
open MeetsSeq MeetsSeq2 MeetsSeq3 SeqRoads2
theorem str_declines_obj (b : Str) (u : Tok) (l : Addr) (o : Obj) :
    Meets (Builtin.«str.__eq__» ⟨[.str b u, .ref l], []⟩) (fun _ R s => (s.heap.get? l = some o ∧ ∃ es ep, o.data = .dict es ep) ∧ R (.ok (.ret .notImplemented)) s) :=
  .of_wp fun prog w A R s h => by
    obtain ⟨hp, g, d, tk, os⟩ := s
    obtain ⟨⟨hl, es, ep, hd⟩, h⟩ := h
    obtain ⟨cls, dd, data, sl⟩ := o
    simp only at hd
    subst hd
    wp_walk using wpAny_loadPart' hl, wpAny_load hl
    exact ⟨_, rfl, h⟩
theorem call_dict_declines_str {prog : Program} {w : World} {A : Around} {E : Value → Shared → Prop} {s : Shared} {K : Type} [DecidableEq K] {knd : PySem.KeyKind prog w K} {l : Addr} {kvs : List (K × Value)} (hd : s.heap.DictOf knd l kvs) (b : Str) (u : Tok) {Q : Value → Shared → Prop} (hq : Q .notImplemented s) :
    wpAny (model prog w) A (call (.builtin "dict.__eq__") [.ref l, .str b u]) Q E s := by
  refine wpAny_call_entry PySem.F.slot_dict_eq_refl hd.typeIs PySem.F.entry_dict_eq ?_ (PySem.F.args_dict_eq_2 _ _)
  show wpAny _ _ (Builtin.Dict.dictSlotArgs "__eq__" ⟨[.ref l, .str b u], []⟩ >>= _) _ _ s
  refine wpAny_bind ?_
  unfold Builtin.Dict.dictSlotArgs
  refine wpAny_bind (wpAny_notOrdered_dict hd.typeIs ?_)
  show wpAny _ _ (pure (Value.ref l, Value.str b u)) _ _ s
  refine wpAny_pure ?_
  refine wpAny_bind (wpAny_isInstance (T := "str") (typeIs_str s b u) PySem.F.sub_str_dict ?_)
  simp only [Bool.not_false, if_true]
  exact wpAny_bind (wpAny_rule (wpAny_pure ⟨_, rfl, hq⟩))
theorem RcAt.str_dict {prog : Program} {w : World} {A : Around} {s : Shared} {K : Type} [DecidableEq K] {knd : PySem.KeyKind prog w K} {l : Addr} {kvs : List (K × Value)} (b : Str) (u : Tok) (hd : s.heap.DictOf knd l kvs) (hu : A.units < cLine) {E Q : Value → Shared → Prop} (h : Q (.bool false) s) : wpAny (model prog w) A (richCompare .Eq (.str b u) (.ref l)) Q E s := by
  obtain ⟨o, es, ep, ho, hx, hda, _⟩ := id hd
  exact rc_eq_decline_or (k := false) (typeIs_str s b u) hd.typeIs (by decide) F.sub_dict_str F.slot_str_eq F.slot_dict_eq_refl
    (fun _ hq => call_meets F.slot_str_eq (typeIs_str s b u) F.entry_str_eq (F.args_str_eq_2 _ _) (str_declines_obj b u l o) ⟨⟨ho, es, ep, hda⟩, hq⟩)
    (fun _ hq => call_dict_declines_str hd b u hq)
    (fun _ hq => wpAny_of_eq (rfl : isSame (.str b u) (.ref l) = pure false) hq) (.inr hu) h
end PySem.SeqAt
namespace Z
open PySem PySem.Spec PyProof.Rows L2
def eqKv (ls : List (Key × PyData)) : List (Key × PyData) → Option Bool
  | [] => some true
  | (k, d) :: r => match lookK ls k with
    | none => some false
    | some e => if SeqAt.shaped d && SeqAt.shaped e then (eqKv ls r).map (PyData.eqv d e && ·) else none
/-- == where a dict stands -/
def eqX : PyData → PyData → Option Bool
  | .dict a, .dict b => (unkey a).bind fun ks => (unkey b).bind fun ls => if ks.length = ls.length then eqKv ls ks else some false
  | .str _, .dict _ => some false
  | .list a, .list b => if a.length = b.length then none else some false
  | _, _ => none
section
variable {X : Cx} {k : Nat}
theorem hits_X {pins : List (Addr × Obj)} {σ : St} {H F : Hp} {s : Shared} (I : Inv X pins σ H s) (sub : Same F H) {A : Around} (hu : A.units + 64 < cLine) {ls : List (Key × PyData)} {lvs : List (Key × V)} {vb : List (Key × Value)} (rb : KV lvs vb) (hb : AtKv F lvs (ls.map fun q => (keyD q.1, q.2))) :
    ∀ {ks : List (Key × PyData)} {kvs : List (Key × V)} {va : List (Key × Value)} {r : Bool}, KV kvs va → AtKv F kvs (ks.map fun q => (keyD q.1, q.2)) → eqKv ls ks = some r → PySem.W.KeqHits A s vb va r := by
  intro ks
  induction ks with
  | nil =>
    intro kvs va r ra ha e
    cases ha
    cases ra
    cases e
    exact .nil
  | cons q ks ih =>
    obtain ⟨k0, d⟩ := q
    intro kvs va r ra ha e
    rw [List.map_cons] at ha
    generalize hkd : keyD k0 = kd at ha
    cases ha with
    | @cons k1 v vs d1 ds a1 a2 =>
      have hk : k1 = k0 := (keyD_inj hkd).symm
      subst hk
      unfold KV at ra
      cases ra with
      | @cons p q ps qs h t =>
        obtain ⟨h1, h2⟩ := h
        obtain ⟨k2, u⟩ := q
        simp only at h1 h2
        subst h1
        unfold eqKv at e
        obtain ⟨i1, i2⟩ := hb.look k1
        cases hl : lookK ls k1 with
        | none =>
          rw [hl] at e
          cases e
          have rr := rb.val k1
          rw [i2 hl] at rr
          refine .miss ?_
          cases hv : valueAt vb k1 with
          | none => rfl
          | some y => rw [hv] at rr; exact False.elim rr
        | some e0 =>
          rw [hl] at e
          obtain ⟨v2, hv2, at2⟩ := i1 e0 hl
          have rr := rb.val k1
          rw [hv2] at rr
          obtain ⟨y, hy, ry⟩ := RelO.some_of rr
          dsimp only at e
          split at e
          · rename_i hs
            rw [Bool.and_eq_true] at hs
            cases he : eqKv ls ks with
            | none => rw [he] at e; cases e
            | some r0 =>
              rw [he] at e
              cases e
              obtain ⟨as, r1, _⟩ := At.reads I sub d v u a1 h2
              obtain ⟨bs, r2, _⟩ := At.reads I sub e0 v2 y at2 ry
              refine .hit hy (SeqAt.eqAt_reads d e0 A s u y as bs r1 r2 (SeqAt.canLay_of_shaped hs.1) (SeqAt.canLay_of_shaped hs.2) ?_) (ih t a2 he)
              have := SeqAt.depth_of_shaped hs.1
              have := Nat.min_le_left d.depth e0.depth
              omega
          · cases e
def rEqX : R2 := fun x y H Q => ∃ F d e r, Same F H ∧ At F x d ∧ At F y e ∧ eqX d e = some r ∧ Q (.bl r) H
theorem op_eqX (hr : RoomZ k X.A) : OpR X (compareOp .Eq) rEqX := by
  intro pins s σ H x y v u Q I rx ry ⟨F, d, e, r, sub, hd, he, hq, q⟩
  unfold eqX at hq
  split at hq
  · rename_i a b
    cases e1 : unkey a with
    | none => rw [e1] at hq; cases hq
    | some ks =>
      cases e2 : unkey b with
      | none => rw [e1, e2] at hq; cases hq
      | some ls =>
        rw [e1, e2] at hq
        have hq : (if ks.length = ls.length then eqKv ls ks else some false) = some r := hq
        obtain rfl := unkey_ok e1
        obtain rfl := unkey_ok e2
        obtain ⟨la, kvs, rfl, fa, at1⟩ := hd.dic_
        obtain ⟨lb, lvs, rfl, fb, at2⟩ := he.dic_
        obtain rfl : v = Value.ref la := rx
        obtain rfl : u = Value.ref lb := ry
        obtain ⟨_, ya, va, ra, da⟩ := (show ObjOk X.prog X.w H s.heap la (.dK kvs) from I.hok la _ (sub _ _ fa))
        obtain ⟨_, yb, vb, rb, db⟩ := (show ObjOk X.prog X.w H s.heap lb (.dK lvs) from I.hok lb _ (sub _ _ fb))
        have l1 : va.length = ks.length := by rw [← ra.length]; have := at1.keys; have := congrArg List.length this; simpa using this.symm
        have l2 : vb.length = ls.length := by rw [← rb.length]; have := at2.keys; have := congrArg List.length this; simpa using this.symm
        by_cases hl : ks.length = ls.length
        · rw [if_pos hl] at hq
          exact PySem.W.keq_eq (knd := mixKind X.prog X.w) (r := r) ya yb da db (by have := hr.hu64; omega) (fun _ => hits_X I sub (by have := hr.hu65; show X.A.units + 1 + 64 < _; omega) rb at2 ra at1 hq) (fin_bl I q (by simp [l1, l2, hl]))
        · rw [if_neg hl] at hq
          cases hq
          exact PySem.W.keq_eq (knd := mixKind X.prog X.w) (r := false) ya yb da db (by have := hr.hu64; omega) (fun z => absurd (by rw [← l1, ← l2]; exact z) hl) (fin_bl I q (by simp))
  · rename_i i b
    cases hq
    obtain ⟨lb, lvs, rfl, fb, at2⟩ := he.dic_
    obtain rfl := hd.str_
    obtain ⟨t, rfl⟩ := rx
    obtain rfl : u = Value.ref lb := ry
    obtain ⟨_, yb, vb, rb, db⟩ := (show ObjOk X.prog X.w H s.heap lb (.dK lvs) from I.hok lb _ (sub _ _ fb))
    exact SeqAt.RcAt.str_dict i t db (by have := hr.hu64; omega) ⟨.bl _, H, I, rfl, q⟩
  · rename_i a b
    split at hq
    · cases hq
    · rename_i hne
      cases hq
      obtain ⟨la, vs, rfl, fa, at1⟩ := hd.lst_
      obtain ⟨lb, ws, rfl, fb, at2⟩ := he.lst_
      obtain rfl : v = Value.ref la := rx
      obtain rfl : u = Value.ref lb := ry
      obtain ⟨us, r1, p1, _⟩ := I.list (.of (sub _ _ fa))
      obtain ⟨ts, r2, p2, _⟩ := I.list (.of (sub _ _ fb))
      have l1 : us.length = a.length := by rw [← r1.length, at1.len]
      have l2 : ts.length = b.length := by rw [← r2.length, at2.len]
      exact SeqAt.RcAt.lists_lengths p1.isList p2.isList (by simpa [l1, l2] using hne) (by have := hr.hu64; omega) _ _ _ _ ⟨.bl _, H, I, rfl, q⟩
  · cases hq
theorem op_neX (hr : RoomZ k X.A) : OpR X (compareOp .NotEq) (fun x y H Q => ∃ F a b r, Same F H ∧ At F x (.dict a) ∧ At F y (.dict b) ∧ eqX (.dict a) (.dict b) = some r ∧ Q (.bl (!r)) H) := by
  intro pins s σ H x y v u Q I rx ry ⟨F, a, b, r, sub, hd, he, hq, q⟩
  unfold eqX at hq
  dsimp only at hq
  cases e1 : unkey a with
  | none => rw [e1] at hq; cases hq
  | some ks =>
    cases e2 : unkey b with
    | none => rw [e1, e2] at hq; cases hq
    | some ls =>
      rw [e1, e2] at hq
      have hq : (if ks.length = ls.length then eqKv ls ks else some false) = some r := hq
      obtain rfl := unkey_ok e1
      obtain rfl := unkey_ok e2
      obtain ⟨la, kvs, rfl, fa, at1⟩ := hd.dic_
      obtain ⟨lb, lvs, rfl, fb, at2⟩ := he.dic_
      obtain rfl : v = Value.ref la := rx
      obtain rfl : u = Value.ref lb := ry
      obtain ⟨_, ya, va, ra, da⟩ := (show ObjOk X.prog X.w H s.heap la (.dK kvs) from I.hok la _ (sub _ _ fa))
      obtain ⟨_, yb, vb, rb, db⟩ := (show ObjOk X.prog X.w H s.heap lb (.dK lvs) from I.hok lb _ (sub _ _ fb))
      have l1 : va.length = ks.length := by rw [← ra.length]; have := at1.keys; have := congrArg List.length this; simpa using this.symm
      have l2 : vb.length = ls.length := by rw [← rb.length]; have := at2.keys; have := congrArg List.length this; simpa using this.symm
      by_cases hl : ks.length = ls.length
      · rw [if_pos hl] at hq
        exact PySem.W.keq_ne (knd := mixKind X.prog X.w) (r := r) ya yb da db (by have := hr.hu64; omega) (fun _ => hits_X I sub (by have := hr.hu65; show X.A.units + 1 + 64 < _; omega) rb at2 ra at1 hq) (fin_bl I q (by simp [l1, l2, hl]))
      · rw [if_neg hl] at hq
        cases hq
        exact PySem.W.keq_ne (knd := mixKind X.prog X.w) (r := false) ya yb da db (by have := hr.hu64; omega) (fun z => absurd (by rw [← l1, ← l2]; exact z) hl) (fin_bl I q (by simp))
theorem op_neL (hr : RoomZ k X.A) : OpR X (compareOp .NotEq) (fun x y H Q => ∃ F a b, Same F H ∧ At F x (.list a) ∧ At F y (.list b) ∧ a.length ≠ b.length ∧ Q (.bl true) H) := by
  intro pins s σ H x y v u Q I rx ry ⟨F, a, b, sub, hd, he, hne, q⟩
  obtain ⟨la, vs, rfl, fa, at1⟩ := hd.lst_
  obtain ⟨lb, ws, rfl, fb, at2⟩ := he.lst_
  obtain rfl : v = Value.ref la := rx
  obtain rfl : u = Value.ref lb := ry
  obtain ⟨us, r1, p1, _⟩ := I.list (.of (sub _ _ fa))
  obtain ⟨ts, r2, p2, _⟩ := I.list (.of (sub _ _ fb))
  have l1 : us.length = a.length := by rw [← r1.length, at1.len]
  have l2 : ts.length = b.length := by rw [← r2.length, at2.len]
  exact SeqAt.RcNeAt.lists_lengths p1.isList p2.isList (by simpa [l1, l2] using hne) (by have := hr.hu64; omega) _ _ _ _ ⟨.bl _, H, I, rfl, q⟩
def eqXW (x y : W) (M : MS) : Option Bool := match rd M x, rd M y with
  | some d, some e => eqX d e
  | _, _ => none
def neXW (x y : W) (M : MS) : Option Bool := match rd M x, rd M y with
  | some (.dict a), some (.dict b) => (eqX (.dict a) (.dict b)).map (!·)
  | some (.list a), some (.list b) => if a.length = b.length then none else some true
  | _, _ => none
theorem eqXW_ok {x y : W} {M : MS} {r : Bool} (h : eqXW x y M = some r) : ∃ d e, rd M x = some d ∧ rd M y = some e ∧ eqX d e = some r := by
  unfold eqXW at h
  split at h
  · exact ⟨_, _, by assumption, by assumption, h⟩
  · cases h
def altC (f g : W → W → MS → Option Bool) (x y : W) (M : MS) : Option Bool := match f x y M with
  | some r => some r
  | none => g x y M
def eqC2 : W → W → MS → Option Bool := altC eqC eqXW
def neC2 : W → W → MS → Option Bool := altC neC neXW
theorem sc_eqX (hr : RoomZ k X.A) : CmpOk X .Eq eqXW := fun a b Γ M Φ h =>
  zc (op_eqX hr) h fun F ι H M v u x y Q R rx ry ψ hQ => by
    obtain ⟨r, e, φ⟩ := ψ
    obtain ⟨d1, d2, h1, h2, h3⟩ := eqXW_ok e
    exact ⟨H, d1, d2, r, Same.refl H, rd_at R rx h1, rd_at R ry h2, h3, hQ _ _ (Post.dat R (At.bl _) φ)⟩
theorem sc_neX (hr : RoomZ k X.A) : CmpOk X .NotEq neXW := fun a b Γ M Φ h =>
  zc ((op_neX hr).or (op_neL hr)) h fun F ι H M v u x y Q R rx ry ψ hQ => by
    obtain ⟨r, e, φ⟩ := ψ
    unfold neXW at e
    split at e
    · rename_i a b h1 h2
      cases he : eqX (.dict a) (.dict b) with
      | none => rw [he] at e; cases e
      | some r0 =>
        rw [he] at e
        cases e
        exact .inl ⟨H, a, b, r0, Same.refl H, rd_at R rx h1, rd_at R ry h2, he, hQ _ _ (Post.dat R (At.bl _) φ)⟩
    · rename_i a b h1 h2
      split at e
      · cases e
      · rename_i hne
        cases e
        exact .inr ⟨H, a, b, Same.refl H, rd_at R rx h1, rd_at R ry h2, hne, hQ _ _ (Post.dat R (At.bl _) φ)⟩
    · cases e
/-- two readings of one comparison -/
theorem se_altC {e : Expr} {f g : W → W → MS → Option Bool} {h1 h2 : EF} (k1 : SE X e (cmpE f h1 h2)) (k2 : SE X e (cmpE g h1 h2)) : SE X e (cmpE (altC f g) h1 h2) := fun Γ M => by
  have a := k1 Γ M
  have b := k2 Γ M
  unfold cmpE binE at a b ⊢
  cases e0 : h1 Γ M with
  | bad => exact .bad
  | ex x M1 => rw [e0] at a; exact a
  | ok x M1 =>
    rw [e0, bind_ok] at a b
    rw [bind_ok]
    cases e1 : h2 Γ M1 with
    | bad => exact .bad
    | ex y M2 => rw [e1] at a; exact a
    | ok y M2 =>
      rw [e1, bind_ok] at a b
      rw [bind_ok]
      unfold liftC altC at *
      cases e2 : f x y M2 with
      | some r => rw [e2] at a; exact a
      | none => exact b
theorem st_altC {e : Expr} {f g : W → W → MS → Option Bool} {h1 h2 : EF} (k1 : ST X e (cmpT f h1 h2)) (k2 : ST X e (cmpT g h1 h2)) : ST X e (cmpT (altC f g) h1 h2) := fun Γ M => by
  have a := k1 Γ M
  have b := k2 Γ M
  unfold cmpT at a b ⊢
  cases e0 : h1 Γ M with
  | bad => exact .bad
  | ex x M1 => rw [e0] at a; exact a
  | ok x M1 =>
    rw [e0, bind_ok] at a b
    rw [bind_ok]
    cases e1 : h2 Γ M1 with
    | bad => exact .bad
    | ex y M2 => rw [e1] at a; exact a
    | ok y M2 =>
      rw [e1, bind_ok] at a b
      rw [bind_ok]
      unfold altC at *
      cases e2 : f x y M2 with
      | some r => rw [e2] at a; exact a
      | none => exact b
end
end Z

namespace Z
open PySem PySem.Spec PyProof.Rows L2
noncomputable def t_p_marks_of_1 : TF := (cmpT eqC (ixE (nmE 1) (kE (.int 0))) (kE (.str "come")))
theorem t_p_marks_of_1_ap {Γ : GS} {M : MS} : t_p_marks_of_1 Γ M = (cmpT eqC (ixE (nmE 1) (kE (.int 0))) (kE (.str "come"))) Γ M := rfl
noncomputable def e_p_marks_of_1 : EF := (ixE (nmE 1) (kE (.int 2)))
theorem e_p_marks_of_1_ap {Γ : GS} {M : MS} : e_p_marks_of_1 Γ M = (ixE (nmE 1) (kE (.int 2))) Γ M := rfl
/-- marks_of(script) -/
noncomputable def g_p_marks_of : SF := (seqS (retS (scE scV [1] (seqI (nmE 0)) (nmG 1) t_p_marks_of_1 e_p_marks_of_1)) nilS)
noncomputable def F_p_marks_of : FF := defF finD 2 g_p_marks_of
noncomputable def F_p_marks_of_M : FF := defF finM 2 g_p_marks_of
/-- after_deed(now, deed, number) -/
noncomputable def g_p_after_deed : SF := (seqS (setS 3 (ixE (nmE 1) (kE (.int 1)))) (seqS (ifS (cmpT eqC (ixE (nmE 1) (kE (.int 0))) (kE (.str "come"))) (seqS (augSS (fun i j => i + j) (nmE 0) (nmE 3) (unE intV1 (cmpE leC (nmE 2) (ixE (nmE 1) (kE (.int 2)))))) nilS) (seqS (ifS (cmpT eqC (ixE (nmE 1) (kE (.int 0))) (kE (.str "merge"))) (seqS (augSS (fun i j => i + j) (nmE 0) (ixE (nmE 1) (kE (.int 2))) (ixE (nmE 0) (nmE 3))) (seqS (asgS (kE (.int 0)) (subG (nmE 0) (nmE 3))) nilS)) (seqS (ifS (cmpT eqC (ixE (nmE 1) (kE (.int 0))) (kE (.str "keep"))) (seqS (asgS (binE minV (ixE (nmE 0) (nmE 3)) (ixE (nmE 1) (kE (.int 2)))) (subG (nmE 0) (nmE 3))) nilS) (seqS (ifS (cmpT geC (ixE (nmE 0) (nmE 3)) (ixE (nmE 1) (kE (.int 2)))) (seqS (augSS (fun i j => i - j) (nmE 0) (nmE 3) (kE (.int 1))) (seqS (ifS (cmpT eqC (ixE (nmE 1) (kE (.int 0))) (kE (.str "move"))) (seqS (augSS (fun i j => i + j) (nmE 0) (ixE (nmE 1) (kE (.int 3))) (kE (.int 1))) nilS) nilS) nilS)) nilS) nilS)) nilS)) nilS)) nilS))
noncomputable def F_p_after_deed : FF := defF finD 4 g_p_after_deed
noncomputable def e_p_counts_behind_1 : EF := (nmE 5)
theorem e_p_counts_behind_1_ap {Γ : GS} {M : MS} : e_p_counts_behind_1 Γ M = (nmE 5) Γ M := rfl
noncomputable def b_p_counts_behind_1 : SF := (seqS (exprS (callE F_p_after_deed (consA (nmE 8) (consA (nmE 9) (consA (nmE 2) nilA))))) nilS)
theorem b_p_counts_behind_1_ap {Γ : GS} {M : MS} : b_p_counts_behind_1 Γ M = (seqS (exprS (callE F_p_after_deed (consA (nmE 8) (consA (nmE 9) (consA (nmE 2) nilA))))) nilS) Γ M := rfl
noncomputable def e_p_counts_behind_2 : EF := (ixE (nmE 8) (nmE 5))
theorem e_p_counts_behind_2_ap {Γ : GS} {M : MS} : e_p_counts_behind_2 Γ M = (ixE (nmE 8) (nmE 5)) Γ M := rfl
/-- counts_behind(house, script, number, counts) -/
noncomputable def g_p_counts_behind : SF := (seqS (setS 4 (lcE mkL [5, 6, 7] (seqI (nmE 0)) (tupG 3 (consG (nmG 5) (consG (nmG 6) (consG (nmG 7) nilG)))) yesT e_p_counts_behind_1)) (seqS (setS 8 (binE dzV (onlyE (nmE 4)) (onlyE (nmE 3)))) (seqS (forS (seqI (nmE 1)) (nmG 9) b_p_counts_behind_1) (seqS (retS (unE toTup (lcE mkL [5] (seqI (nmE 4)) (nmG 5) yesT e_p_counts_behind_2))) nilS))))
noncomputable def F_p_counts_behind : FF := defF finD 10 g_p_counts_behind
/-- do_deed(table, deed) -/
noncomputable def g_p_do_deed : SF := (seqS (setS 2 (ixE (nmE 0) (ixE (nmE 1) (kE (.int 1))))) (seqS (ifS (cmpT eqC (ixE (nmE 1) (kE (.int 0))) (kE (.str "come"))) (seqS (asgS (unE sortMV (argE lstV (starA (nmE 2) (consA (ixE (nmE 1) (kE (.int 2))) nilA)))) (subG (nmE 0) (ixE (nmE 1) (kE (.int 1))))) nilS) (seqS (ifS (cmpT eqC (ixE (nmE 1) (kE (.int 0))) (kE (.str "merge"))) (seqS (asgS (unE sortMV (binE addV (ixE (nmE 0) (ixE (nmE 1) (kE (.int 2)))) (nmE 2))) (subG (nmE 0) (ixE (nmE 1) (kE (.int 2))))) (seqS (asgS (argE lstMV nilA) (subG (nmE 0) (ixE (nmE 1) (kE (.int 1))))) nilS)) (seqS (ifS (cmpT eqC (ixE (nmE 1) (kE (.int 0))) (kE (.str "keep"))) (seqS (asgS (slE slMV (nmE 2) (someP (binE maxV (kE (.int 0)) (binE subV (unE lenV (nmE 2)) (ixE (nmE 1) (kE (.int 2)))))) noneP) (subG (nmE 0) (ixE (nmE 1) (kE (.int 1))))) nilS) (seqS (ifS (cmpT geC (unE lenV (nmE 2)) (ixE (nmE 1) (kE (.int 2)))) (seqS (setS 3 (met1 popV (nmE 2) (binE subV (unE lenV (nmE 2)) (ixE (nmE 1) (kE (.int 2)))))) (seqS (ifS (cmpT eqC (ixE (nmE 1) (kE (.int 0))) (kE (.str "move"))) (seqS (asgS (unE sortMV (argE lstV (starA (ixE (nmE 0) (ixE (nmE 1) (kE (.int 3)))) (consA (nmE 3) nilA)))) (subG (nmE 0) (ixE (nmE 1) (kE (.int 3))))) nilS) nilS) nilS)) nilS) nilS)) nilS)) nilS)) nilS))
noncomputable def F_p_do_deed : FF := defF finI 4 g_p_do_deed
noncomputable def k_p_done_1 : EF := (nmE 4)
theorem k_p_done_1_ap {Γ : GS} {M : MS} : k_p_done_1 Γ M = (nmE 4) Γ M := rfl
noncomputable def e_p_done_1 : EF := (unE toListM (ixE (nmE 1) (nmE 4)))
theorem e_p_done_1_ap {Γ : GS} {M : MS} : e_p_done_1 Γ M = (unE toListM (ixE (nmE 1) (nmE 4))) Γ M := rfl
noncomputable def b_p_done_1 : SF := (seqS (exprS (callE F_p_do_deed (consA (nmE 3) (consA (nmE 7) nilA)))) nilS)
theorem b_p_done_1_ap {Γ : GS} {M : MS} : b_p_done_1 Γ M = (seqS (exprS (callE F_p_do_deed (consA (nmE 3) (consA (nmE 7) nilA)))) nilS) Γ M := rfl
noncomputable def k_p_done_2 : EF := (nmE 4)
theorem k_p_done_2_ap {Γ : GS} {M : MS} : k_p_done_2 Γ M = (nmE 4) Γ M := rfl
noncomputable def e_p_done_2 : EF := (unE toTup (ixE (nmE 3) (nmE 4)))
theorem e_p_done_2_ap {Γ : GS} {M : MS} : e_p_done_2 Γ M = (unE toTup (ixE (nmE 3) (nmE 4))) Γ M := rfl
/-- done(house, table, script) -/
noncomputable def g_p_done : SF := (seqS (setS 3 (dcE mkD [4, 5, 6] (seqI (nmE 0)) (tupG 3 (consG (nmG 4) (consG (nmG 5) (consG (nmG 6) nilG)))) yesT k_p_done_1 e_p_done_1)) (seqS (forS (seqI (nmE 2)) (nmG 7) b_p_done_1) (seqS (retS (dcE mkDM [4] (seqI (unE (altV sortV sortKV) (nmE 3))) (nmG 4) yesT k_p_done_2 e_p_done_2)) nilS)))
noncomputable def F_p_done : FF := defF finD 8 g_p_done
/-- _law_take(_law_bag_here, _law_many) -/
noncomputable def g_take : SF := (seqS (ifS (cmpT eqC (ixE (nmE 0) (kE (.int 0))) (kE (.int 0))) (seqS (setS 2 (ixE (binE addV (slE slV (ixE (nmE 0) (kE (.int 3))) (someP (ixE (nmE 0) (kE (.int 2)))) noneP) (argE lstV (consA (kE (.int 0)) nilA))) (kE (.int 0)))) (seqS (augSS (fun i j => i + j) (nmE 0) (kE (.int 2)) (kE (.int 1))) (seqS (ifS (cmpT geC (nmE 2) (binE powV (kE (.int 10)) (kE (.int 18)))) (seqS (asgS (nmE 2) (subG (nmE 0) (kE (.int 0)))) nilS) nilS) (seqS (setS 3 (binE addV (binE addV (binE mulV (ixE (nmE 0) (kE (.int 1))) (kE (.int 48271))) (binE modV (unE intV1 (nmE 2)) (kE (.int 2147483647)))) (binE mulV (kE (.int 7919)) (ixE (nmE 0) (kE (.int 2)))))) (seqS (asgS (binE modV (unE intV1 (nmE 3)) (kE (.int 2147483647))) (subG (nmE 0) (kE (.int 1)))) nilS))))) nilS) (seqS (ifS (cmpT gtC (ixE (nmE 0) (kE (.int 0))) (kE (.int 0))) (seqS (setS 4 (binE modV (unE intV1 (ixE (nmE 0) (kE (.int 0)))) (nmE 1))) (seqS (asgS (binE fdivV (unE intV1 (ixE (nmE 0) (kE (.int 0)))) (nmE 1)) (subG (nmE 0) (kE (.int 0)))) (seqS (retS (nmE 4)) nilS))) nilS) (seqS (setS 5 (binE modV (unE intV1 (binE mulV (binE addV (ixE (nmE 0) (kE (.int 1))) (kE (.int 1))) (kE (.int 39373)))) (kE (.int 1000000007)))) (seqS (setS 6 (binE modV (unE intV1 (binE mulV (binE modV (unE intV1 (binE mulV (nmE 5) (nmE 5))) (kE (.int 998244353))) (kE (.int 30011)))) (kE (.int 998244353)))) (seqS (retS (binE modV (unE intV1 (binE fdivV (nmE 6) (kE (.int 7)))) (nmE 1))) nilS)))))
noncomputable def F_take : FF := defF finD 7 g_take
/-- _law_one(_law_bag_here, _law_things) -/
noncomputable def g_one : SF := (seqS (retS (ixE (nmE 1) (callE F_take (consA (nmE 0) (consA (unE lenV (nmE 1)) nilA))))) nilS)
noncomputable def F_one : FF := defF finD 2 g_one
noncomputable def b_mixed_1 : SF := (seqS (exprS (met2 insV (nmE 2) (callE F_take (consA (nmE 0) (consA (binE addV (unE lenV (nmE 2)) (kE (.int 1))) nilA))) (nmE 3))) nilS)
theorem b_mixed_1_ap {Γ : GS} {M : MS} : b_mixed_1 Γ M = (seqS (exprS (met2 insV (nmE 2) (callE F_take (consA (nmE 0) (consA (binE addV (unE lenV (nmE 2)) (kE (.int 1))) nilA))) (nmE 3))) nilS) Γ M := rfl
/-- _law_mixed(_law_bag_here, _law_things) -/
noncomputable def g_mixed : SF := (seqS (setS 2 (argE lstMV nilA)) (seqS (forS (seqI (nmE 1)) (nmG 3) b_mixed_1) (seqS (retS (nmE 2)) nilS)))
noncomputable def F_mixed : FF := defF finD 4 g_mixed
/-- _law_alike(_law_found, _law_due) -/
noncomputable def g_alike : SF := (seqS (retS (andE (cmpE (altC eqC eqXW) (nmE 0) (nmE 1)) (cmpE eqC (unE reprV (nmE 0)) (unE reprV (nmE 1))))) nilS)
noncomputable def F_alike : FF := defF finD 2 g_alike
/-- _law_names(_law_bag_here, _law_many) -/
noncomputable def g_names : SF := (seqS (setS 2 (argE lstV (consA (kE (.str "a")) (consA (kE (.str "b")) (consA (kE (.str "c")) (consA (kE (.str "ab")) (consA (kE (.str "rank")) (consA (kE (.str "kth")) (consA (kE (.str "open")) (consA (kE (.str "sort")) (consA (kE (.str "rows")) (consA (kE (.str "is")) (consA (kE (.str "at")) (consA (kE (.str "count")) (consA (kE (.str "fact")) nilA))))))))))))))) (seqS (setS 2 (binE addV (nmE 2) (argE lstV (consA (kE (.str "zzzzzz")) (consA (kE (.str "x")) (consA (kE (.str "gym")) (consA (kE (.str "jvl")) nilA))))))) (seqS (retS (unE toTup (unE (altV sortV sortKV) (slE slV (callE F_mixed (consA (nmE 0) (consA (nmE 2) nilA))) noneP (someP (nmE 1)))))) nilS)))
noncomputable def F_names : FF := defF finD 3 g_names
/-- _law_sort(_law_bag_here, _law_name) -/
noncomputable def g_sort : SF := (seqS (parS 2 3 (callE F_take (consA (nmE 0) (consA (kE (.int 7)) nilA))) (callE F_one (consA (nmE 0) (consA (argE lstV (consA (kE (.int 0)) (consA (kE (.int 1)) (consA (kE (.int 2)) (consA (kE (.int 1)) (consA (kE (.int 3)) nilA)))))) nilA)))) (seqS (ifS (cmpT ltC (nmE 2) (kE (.int 3))) (seqS (retS (argE tupV (consA (nmE 1) (consA (kE (.int 1)) (consA (kE (.int 1)) nilA))))) nilS) nilS) (seqS (ifS (cmpT eqC (nmE 2) (kE (.int 3))) (seqS (retS (argE tupV (consA (nmE 1) (consA (nmE 3) (consA (nmE 3) nilA))))) nilS) nilS) (seqS (ifS (cmpT eqC (nmE 2) (kE (.int 4))) (seqS (retS (argE tupV (consA (nmE 1) (consA (kE (.int 0)) (consA (binE addV (kE (.int 1)) (callE F_take (consA (nmE 0) (consA (kE (.int 3)) nilA)))) nilA))))) nilS) nilS) (seqS (ifS (cmpT eqC (nmE 2) (kE (.int 5))) (seqS (retS (argE tupV (consA (nmE 1) (consA (nmE 3) (consA (binE addV (nmE 3) (callE F_one (consA (nmE 0) (consA (argE lstV (consA (kE (.int 1)) (consA (kE (.int 2)) (consA (kE (.int 0)) (consA (kE (.int 6)) nilA))))) nilA)))) nilA))))) nilS) nilS) (seqS (retS (argE tupV (consA (nmE 1) (consA (nmE 3) (consA (kE .none) nilA))))) nilS))))))
noncomputable def F_sort : FF := defF finD 4 g_sort
noncomputable def e_house_1 : EF := (callE F_sort (consA (nmE 0) (consA (nmE 2) nilA)))
theorem e_house_1_ap {Γ : GS} {M : MS} : e_house_1 Γ M = (callE F_sort (consA (nmE 0) (consA (nmE 2) nilA))) Γ M := rfl
/-- _law_house(_law_bag_here, _law_most) -/
noncomputable def g_house : SF := (seqS (retS (unE toTup (lcE mkL [2] (seqI (callE F_names (consA (nmE 0) (consA (binE addV (kE (.int 1)) (callE F_take (consA (nmE 0) (consA (nmE 1) nilA)))) nilA)))) (nmG 2) yesT e_house_1))) nilS)
noncomputable def F_house : FF := defF finD 3 g_house
noncomputable def e_numbers_1 : EF := (binE addV (nmE 1) (binE mulV (nmE 2) (nmE 3)))
theorem e_numbers_1_ap {Γ : GS} {M : MS} : e_numbers_1 Γ M = (binE addV (nmE 1) (binE mulV (nmE 2) (nmE 3))) Γ M := rfl
/-- _law_numbers(_law_bag_here) -/
noncomputable def g_numbers : SF := (seqS (asgS (argE tupV (consA (callE F_one (consA (nmE 0) (consA (argE lstV (consA (kE (.int 0)) (consA (unE negV (kE (.int 2))) (consA (kE (.int 5)) (consA (kE (.int 0)) (consA (binE subV (kE (.int 1)) (binE powV (kE (.int 10)) (kE (.int 30)))) nilA)))))) nilA))) (consA (callE F_one (consA (nmE 0) (consA (argE lstV (consA (kE (.int 1)) (consA (kE (.int 2)) (consA (kE (.int 1)) (consA (kE (.int 3)) (consA (binE powV (kE (.int 10)) (kE (.int 29))) nilA)))))) nilA))) nilA))) (tupG 2 (consG (nmG 1) (consG (nmG 2) nilG)))) (seqS (retS (lcE mkL [3] (rng1I (binE addV (kE (.int 1)) (callE F_take (consA (nmE 0) (consA (kE (.int 7)) nilA))))) (nmG 3) yesT e_numbers_1)) nilS))
noncomputable def F_numbers : FF := defF finD 4 g_numbers
/-- _law_size(_law_bag_here, _law_sort_here, _law_more_here) -/
noncomputable def g_size : SF := (seqS (setS 3 (ifE (unT isN (ixE (nmE 1) (kE (.int 2)))) (binE addV (ixE (nmE 1) (kE (.int 1))) (nmE 2)) (binE minV (ixE (nmE 1) (kE (.int 2))) (binE addV (ixE (nmE 1) (kE (.int 1))) (nmE 2))))) (seqS (retS (binE addV (ixE (nmE 1) (kE (.int 1))) (callE F_take (consA (nmE 0) (consA (binE addV (binE subV (nmE 3) (ixE (nmE 1) (kE (.int 1)))) (kE (.int 1))) nilA))))) nilS))
noncomputable def F_size : FF := defF finD 4 g_size
noncomputable def e_table_1 : EF := (callE F_one (consA (nmE 0) (consA (nmE 2) nilA)))
theorem e_table_1_ap {Γ : GS} {M : MS} : e_table_1 Γ M = (callE F_one (consA (nmE 0) (consA (nmE 2) nilA))) Γ M := rfl
noncomputable def b_table_1 : SF := (seqS (asgS (unE toTup (unE (altV sortV sortKV) (lcE mkL [6] (rng1I (callE F_size (consA (nmE 0) (consA (nmE 5) (consA (nmE 3) nilA))))) (nmG 6) yesT e_table_1))) (subG (nmE 4) (ixE (nmE 5) (kE (.int 0))))) nilS)
theorem b_table_1_ap {Γ : GS} {M : MS} : b_table_1 Γ M = (seqS (asgS (unE toTup (unE (altV sortV sortKV) (lcE mkL [6] (rng1I (callE F_size (consA (nmE 0) (consA (nmE 5) (consA (nmE 3) nilA))))) (nmG 6) yesT e_table_1))) (subG (nmE 4) (ixE (nmE 5) (kE (.int 0))))) nilS) Γ M := rfl
/-- _law_table(_law_bag_here, _law_house_here, _law_pool, _law_more_here) -/
noncomputable def g_table : SF := (seqS (setS 4 dnewE) (seqS (forS (seqI (callE F_mixed (consA (nmE 0) (consA (nmE 1) nilA)))) (nmG 5) b_table_1) (seqS (retS (nmE 4)) nilS)))
noncomputable def F_table : FF := defF finD 7 g_table
noncomputable def t_at_1 : TF := (cmpT geC (nmE 3) (nmE 2))
theorem t_at_1_ap {Γ : GS} {M : MS} : t_at_1 Γ M = (cmpT geC (nmE 3) (nmE 2)) Γ M := rfl
noncomputable def e_at_1 : EF := (nmE 3)
theorem e_at_1_ap {Γ : GS} {M : MS} : e_at_1 Γ M = (nmE 3) Γ M := rfl
noncomputable def e_at_2 : EF := (unE lenV (lcE mkL [3] (seqI (ixE (nmE 1) (ixE (nmE 4) (kE (.int 0))))) (nmG 3) t_at_1 e_at_1))
theorem e_at_2_ap {Γ : GS} {M : MS} : e_at_2 Γ M = (unE lenV (lcE mkL [3] (seqI (ixE (nmE 1) (ixE (nmE 4) (kE (.int 0))))) (nmG 3) t_at_1 e_at_1)) Γ M := rfl
/-- _law_at(_law_house_here, _law_table_here, _law_number) -/
noncomputable def g_at : SF := (seqS (retS (unE toTup (lcE mkL [4] (seqI (nmE 0)) (nmG 4) yesT e_at_2))) nilS)
noncomputable def F_at : FF := defF finD 5 g_at
noncomputable def t_within_1 : TF := (cmpT gtC (nmE 2) (nmE 3))
theorem t_within_1_ap {Γ : GS} {M : MS} : t_within_1 Γ M = (cmpT gtC (nmE 2) (nmE 3)) Γ M := rfl
noncomputable def e_within_1 : EF := (kE (.int 1))
theorem e_within_1_ap {Γ : GS} {M : MS} : e_within_1 Γ M = (kE (.int 1)) Γ M := rfl
/-- _law_within(_law_one_here, _law_other) -/
noncomputable def g_within : SF := (seqS (retS (cmpE eqC (lcE mkL [2, 3] (zipI (nmE 0) (nmE 1)) (tupG 2 (consG (nmG 2) (consG (nmG 3) nilG))) t_within_1 e_within_1) (argE lstV nilA))) nilS)
noncomputable def F_within : FF := defF finD 4 g_within
noncomputable def e_deed_1 : EF := (ixE (nmE 5) (kE (.int 0)))
theorem e_deed_1_ap {Γ : GS} {M : MS} : e_deed_1 Γ M = (ixE (nmE 5) (kE (.int 0))) Γ M := rfl
/-- _law_deed(_law_bag_here, _law_house_here, _law_pool, _law_most) -/
noncomputable def g_deed : SF := (seqS (setS 4 (lcE mkL [5] (seqI (nmE 1)) (nmG 5) yesT e_deed_1)) (seqS (parS 6 7 (slE slV (callE F_mixed (consA (nmE 0) (consA (nmE 4) nilA))) noneP (someP (kE (.int 2)))) (binE addV (kE (.int 1)) (callE F_take (consA (nmE 0) (consA (nmE 3) nilA))))) (seqS (setS 8 (callE F_take (consA (nmE 0) (consA (ifE (cmpT gtC (unE lenV (nmE 6)) (kE (.int 1))) (kE (.int 5)) (kE (.int 3))) nilA)))) (seqS (ifS (cmpT eqC (nmE 8) (kE (.int 0))) (seqS (retS (argE tupV (consA (kE (.str "come")) (consA (ixE (nmE 6) (kE (.int 0))) (consA (callE F_one (consA (nmE 0) (consA (nmE 2) nilA))) nilA))))) nilS) nilS) (seqS (ifS (cmpT eqC (nmE 8) (kE (.int 1))) (seqS (retS (argE tupV (consA (kE (.str "go")) (consA (ixE (nmE 6) (kE (.int 0))) (consA (nmE 7) nilA))))) nilS) nilS) (seqS (ifS (cmpT eqC (nmE 8) (kE (.int 2))) (seqS (retS (argE tupV (consA (kE (.str "keep")) (consA (ixE (nmE 6) (kE (.int 0))) (consA (callE F_one (consA (nmE 0) (consA (argE lstV (consA (nmE 7) (consA (binE subV (nmE 7) (kE (.int 1))) nilA))) nilA))) nilA))))) nilS) nilS) (seqS (retS (ifE (cmpT eqC (nmE 8) (kE (.int 3))) (argE tupV (consA (kE (.str "move")) (consA (ixE (nmE 6) (kE (.int 0))) (consA (nmE 7) (consA (ixE (nmE 6) (kE (.int 1))) nilA))))) (argE tupV (consA (kE (.str "merge")) (consA (ixE (nmE 6) (kE (.int 0))) (consA (ixE (nmE 6) (kE (.int 1))) nilA)))))) nilS)))))))
noncomputable def F_deed : FF := defF finD 9 g_deed
noncomputable def e_script_1 : EF := (callE F_deed (consA (nmE 0) (consA (nmE 1) (consA (nmE 2) (consA (nmE 4) nilA)))))
theorem e_script_1_ap {Γ : GS} {M : MS} : e_script_1 Γ M = (callE F_deed (consA (nmE 0) (consA (nmE 1) (consA (nmE 2) (consA (nmE 4) nilA))))) Γ M := rfl
/-- _law_script(_law_bag_here, _law_house_here, _law_pool, _law_many, _law_most) -/
noncomputable def g_script : SF := (seqS (retS (unE toTup (lcE mkL [5] (rng1I (callE F_take (consA (nmE 0) (consA (binE addV (nmE 3) (kE (.int 1))) nilA)))) (nmG 5) yesT e_script_1))) nilS)
noncomputable def F_script : FF := defF finD 6 g_script
noncomputable def e_map_1 : EF := (ixE (nmE 6) (kE (.int 0)))
theorem e_map_1_ap {Γ : GS} {M : MS} : e_map_1 Γ M = (ixE (nmE 6) (kE (.int 0))) Γ M := rfl
noncomputable def b_map_1 : SF := (seqS (parS 8 9 (binE idxV (onlyE (nmE 4)) (onlyE (ixE (nmE 7) (kE (.int 1))))) (ixE (nmE 7) (kE (.int 0)))) (seqS (ifS (cmpT eqC (nmE 9) (kE (.str "come"))) (seqS (augSS (fun i j => i + j) (nmE 5) (nmE 8) (unE intV1 (cmpE leC (nmE 2) (ixE (nmE 7) (kE (.int 2)))))) nilS) (seqS (ifS (cmpT eqC (nmE 9) (kE (.str "keep"))) (seqS (asgS (binE minV (ixE (nmE 5) (nmE 8)) (ixE (nmE 7) (kE (.int 2)))) (subG (nmE 5) (nmE 8))) nilS) (seqS (ifS (cmpT eqC (nmE 9) (kE (.str "merge"))) (seqS (augSS (fun i j => i + j) (nmE 5) (binE idxV (onlyE (nmE 4)) (onlyE (ixE (nmE 7) (kE (.int 2))))) (ixE (nmE 5) (nmE 8))) (seqS (asgS (kE (.int 0)) (subG (nmE 5) (nmE 8))) nilS)) (seqS (ifS (cmpT geC (ixE (nmE 5) (nmE 8)) (ixE (nmE 7) (kE (.int 2)))) (seqS (augSS (fun i j => i - j) (nmE 5) (nmE 8) (kE (.int 1))) (seqS (ifS (cmpT eqC (nmE 9) (kE (.str "move"))) (seqS (augSS (fun i j => i + j) (nmE 5) (binE idxV (onlyE (nmE 4)) (onlyE (ixE (nmE 7) (kE (.int 3))))) (kE (.int 1))) nilS) nilS) nilS)) nilS) nilS)) nilS)) nilS)) nilS))
theorem b_map_1_ap {Γ : GS} {M : MS} : b_map_1 Γ M = (seqS (parS 8 9 (binE idxV (onlyE (nmE 4)) (onlyE (ixE (nmE 7) (kE (.int 1))))) (ixE (nmE 7) (kE (.int 0)))) (seqS (ifS (cmpT eqC (nmE 9) (kE (.str "come"))) (seqS (augSS (fun i j => i + j) (nmE 5) (nmE 8) (unE intV1 (cmpE leC (nmE 2) (ixE (nmE 7) (kE (.int 2)))))) nilS) (seqS (ifS (cmpT eqC (nmE 9) (kE (.str "keep"))) (seqS (asgS (binE minV (ixE (nmE 5) (nmE 8)) (ixE (nmE 7) (kE (.int 2)))) (subG (nmE 5) (nmE 8))) nilS) (seqS (ifS (cmpT eqC (nmE 9) (kE (.str "merge"))) (seqS (augSS (fun i j => i + j) (nmE 5) (binE idxV (onlyE (nmE 4)) (onlyE (ixE (nmE 7) (kE (.int 2))))) (ixE (nmE 5) (nmE 8))) (seqS (asgS (kE (.int 0)) (subG (nmE 5) (nmE 8))) nilS)) (seqS (ifS (cmpT geC (ixE (nmE 5) (nmE 8)) (ixE (nmE 7) (kE (.int 2)))) (seqS (augSS (fun i j => i - j) (nmE 5) (nmE 8) (kE (.int 1))) (seqS (ifS (cmpT eqC (nmE 9) (kE (.str "move"))) (seqS (augSS (fun i j => i + j) (nmE 5) (binE idxV (onlyE (nmE 4)) (onlyE (ixE (nmE 7) (kE (.int 3))))) (kE (.int 1))) nilS) nilS) nilS)) nilS) nilS)) nilS)) nilS)) nilS)) Γ M := rfl
/-- _law_map(_law_house_here, _law_script_here, _law_number, _law_counts) -/
noncomputable def g_map : SF := (seqS (parS 4 5 (lcE mkL [6] (seqI (nmE 0)) (nmG 6) yesT e_map_1) (unE toListM (nmE 3))) (seqS (forS (seqI (nmE 1)) (nmG 7) b_map_1) (seqS (retS (unE toTup (nmE 5))) nilS)))
noncomputable def F_map : FF := defF finD 10 g_map
noncomputable def t_marks_1 : TF := (cmpT eqC (ixE (nmE 1) (kE (.int 0))) (kE (.str "come")))
theorem t_marks_1_ap {Γ : GS} {M : MS} : t_marks_1 Γ M = (cmpT eqC (ixE (nmE 1) (kE (.int 0))) (kE (.str "come"))) Γ M := rfl
noncomputable def e_marks_1 : EF := (ixE (nmE 1) (kE (.int 2)))
theorem e_marks_1_ap {Γ : GS} {M : MS} : e_marks_1 Γ M = (ixE (nmE 1) (kE (.int 2))) Γ M := rfl
/-- _law_marks(_law_script_here) -/
noncomputable def g_marks : SF := (seqS (retS (unE risV (onlyE (lcE mkL [1] (seqI (nmE 0)) (nmG 1) t_marks_1 e_marks_1)))) nilS)
noncomputable def F_marks : FF := defF finD 2 g_marks
noncomputable def e_more_1 : EF := (binE addV (nmE 2) (callE F_one (consA (nmE 0) (consA (argE lstV (consA (kE (.int 0)) (consA (kE (.int 1)) (consA (kE (.int 0)) (consA (kE (.int 3)) nilA))))) nilA))))
theorem e_more_1_ap {Γ : GS} {M : MS} : e_more_1 Γ M = (binE addV (nmE 2) (callE F_one (consA (nmE 0) (consA (argE lstV (consA (kE (.int 0)) (consA (kE (.int 1)) (consA (kE (.int 0)) (consA (kE (.int 3)) nilA))))) nilA)))) Γ M := rfl
/-- _law_more(_law_bag_here, _law_counts) -/
noncomputable def g_more : SF := (seqS (retS (unE toTup (lcE mkL [2] (seqI (nmE 1)) (nmG 2) yesT e_more_1))) nilS)
noncomputable def F_more : FF := defF finD 3 g_more
noncomputable def e_is_map_right_1 : EF := (callE F_one (consA (nmE 0) (consA (argE lstV (consA (kE (.int 0)) (consA (kE (.int 1)) (consA (kE (.int 2)) (consA (kE (.int 3)) (consA (kE (.int 5)) (consA (kE (.int 9)) (consA (kE (.int 14)) (consA (kE (.int 40)) nilA))))))))) nilA)))
theorem e_is_map_right_1_ap {Γ : GS} {M : MS} : e_is_map_right_1 Γ M = (callE F_one (consA (nmE 0) (consA (argE lstV (consA (kE (.int 0)) (consA (kE (.int 1)) (consA (kE (.int 2)) (consA (kE (.int 3)) (consA (kE (.int 5)) (consA (kE (.int 9)) (consA (kE (.int 14)) (consA (kE (.int 40)) nilA))))))))) nilA))) Γ M := rfl
noncomputable def b_is_map_right_1 : SF := (seqS (setS 5 (unE toTup (lcE mkL [6] (seqI (nmE 1)) (nmG 6) yesT e_is_map_right_1))) (seqS (parS 7 8 (callE F_one (consA (nmE 0) (consA (nmE 3) nilA))) (callE F_more (consA (nmE 0) (consA (nmE 5) nilA)))) (seqS (setS 9 (argE lstV (consA (callE F_p_counts_behind (consA (nmE 1) (consA (nmE 2) (consA (nmE 7) (consA (nmE 5) nilA))))) (consA (callE F_p_counts_behind (consA (nmE 1) (consA (nmE 2) (consA (nmE 7) (consA (nmE 8) nilA))))) nilA)))) (seqS (ifS (notT (valT (callE F_alike (consA (nmE 9) (consA (argE lstV (consA (callE F_map (consA (nmE 1) (consA (nmE 2) (consA (nmE 7) (consA (nmE 5) nilA))))) (consA (callE F_map (consA (nmE 1) (consA (nmE 2) (consA (nmE 7) (consA (nmE 8) nilA))))) nilA))) nilA))))) (seqS (retS (kE (.bool false))) nilS) nilS) (seqS (ifS (notT (valT (callE F_within (consA (ixE (nmE 9) (kE (.int 0))) (consA (ixE (nmE 9) (kE (.int 1))) nilA))))) (seqS (retS (kE (.bool false))) nilS) nilS) nilS)))))
theorem b_is_map_right_1_ap {Γ : GS} {M : MS} : b_is_map_right_1 Γ M = (seqS (setS 5 (unE toTup (lcE mkL [6] (seqI (nmE 1)) (nmG 6) yesT e_is_map_right_1))) (seqS (parS 7 8 (callE F_one (consA (nmE 0) (consA (nmE 3) nilA))) (callE F_more (consA (nmE 0) (consA (nmE 5) nilA)))) (seqS (setS 9 (argE lstV (consA (callE F_p_counts_behind (consA (nmE 1) (consA (nmE 2) (consA (nmE 7) (consA (nmE 5) nilA))))) (consA (callE F_p_counts_behind (consA (nmE 1) (consA (nmE 2) (consA (nmE 7) (consA (nmE 8) nilA))))) nilA)))) (seqS (ifS (notT (valT (callE F_alike (consA (nmE 9) (consA (argE lstV (consA (callE F_map (consA (nmE 1) (consA (nmE 2) (consA (nmE 7) (consA (nmE 5) nilA))))) (consA (callE F_map (consA (nmE 1) (consA (nmE 2) (consA (nmE 7) (consA (nmE 8) nilA))))) nilA))) nilA))))) (seqS (retS (kE (.bool false))) nilS) nilS) (seqS (ifS (notT (valT (callE F_within (consA (ixE (nmE 9) (kE (.int 0))) (consA (ixE (nmE 9) (kE (.int 1))) nilA))))) (seqS (retS (kE (.bool false))) nilS) nilS) nilS))))) Γ M := rfl
/-- _law_is_map_right(_law_bag_here, _law_house_here, _law_deeds, _law_numbers_here) -/
noncomputable def g_is_map_right : SF := (seqS (forS (rng1I (kE (.int 6))) (nmG 4) b_is_map_right_1) (seqS (retS (kE (.bool true))) nilS))
noncomputable def F_is_map_right : FF := defF finD 10 g_is_map_right
noncomputable def e_p_law_1 : EF := (binE addV (nmE 13) (kE (.int 1)))
theorem e_p_law_1_ap {Γ : GS} {M : MS} : e_p_law_1 Γ M = (binE addV (nmE 13) (kE (.int 1))) Γ M := rfl
noncomputable def b_p_law_1 : SF := (seqS (setS 14 (callE F_at (consA (nmE 3) (consA (nmE 5) (consA (nmE 13) nilA))))) (seqS (ifS (notT (valT (callE F_alike (consA (callE F_p_counts_behind (consA (nmE 3) (consA (nmE 6) (consA (nmE 13) (consA (nmE 14) nilA))))) (consA (callE F_at (consA (nmE 3) (consA (nmE 8) (consA (nmE 13) nilA)))) nilA))))) (seqS (retS (kE (.bool false))) nilS) nilS) nilS))
theorem b_p_law_1_ap {Γ : GS} {M : MS} : b_p_law_1 Γ M = (seqS (setS 14 (callE F_at (consA (nmE 3) (consA (nmE 5) (consA (nmE 13) nilA))))) (seqS (ifS (notT (valT (callE F_alike (consA (callE F_p_counts_behind (consA (nmE 3) (consA (nmE 6) (consA (nmE 13) (consA (nmE 14) nilA))))) (consA (callE F_at (consA (nmE 3) (consA (nmE 8) (consA (nmE 13) nilA)))) nilA))))) (seqS (retS (kE (.bool false))) nilS) nilS) nilS)) Γ M := rfl
noncomputable def b_p_law_2 : SF := (seqS (parS 3 4 (callE F_house (consA (nmE 1) (consA (kE (.int 4)) nilA))) (callE F_numbers (consA (nmE 1) nilA))) (seqS (setS 5 (callE F_table (consA (nmE 1) (consA (nmE 3) (consA (nmE 4) (consA (kE (.int 2)) nilA)))))) (seqS (setS 6 (callE F_script (consA (nmE 1) (consA (nmE 3) (consA (binE addV (nmE 4) (argE lstV (consA (binE addV (ixE (nmE 4) (unE negV (kE (.int 1)))) (kE (.int 4))) (consA (kE (.int 3)) nilA)))) (consA (kE (.int 12)) (consA (callE F_one (consA (nmE 1) (consA (argE lstV (consA (kE (.int 2)) (consA (kE (.int 3)) (consA (kE (.int 9)) nilA)))) nilA))) nilA))))))) (seqS (par3S 7 8 9 (onlyE (callE F_marks (consA (nmE 6) nilA))) (onlyE (callE F_p_done (consA (nmE 3) (consA (nmE 5) (consA (nmE 6) nilA))))) (onlyE (unE reprV (argE lstV (consA (nmE 3) (consA (nmE 5) (consA (nmE 6) nilA))))))) (seqS (setS 10 (callE F_p_marks_of_M (consA (nmE 6) nilA))) (seqS (ifS (notT (valT (callE F_alike (consA (nmE 10) (consA (nmE 7) nilA))))) (seqS (retS (kE (.bool false))) nilS) nilS) (seqS (exprS (met1 appV (nmE 10) (kE .none))) (seqS (setS 11 (ifE (cmpT gtC (ixE (nmE 4) (kE (.int 0))) (unE negV (kE (.int 9)))) (binE subV (ixE (nmE 4) (kE (.int 0))) (kE (.int 5))) (ixE (nmE 4) (kE (.int 0))))) (seqS (setS 12 (unE risV (onlyE (binE addV (binE addV (binE addV (nmE 4) (nmE 7)) (lcE mkL [13] (seqI (binE addV (nmE 4) (nmE 7))) (nmG 13) yesT e_p_law_1)) (argE lstV (consA (nmE 11) (consA (binE addV (ixE (nmE 4) (unE negV (kE (.int 1)))) (kE (.int 9))) nilA))))))) (seqS (forS (seqI (nmE 12)) (nmG 13) b_p_law_1) (seqS (ifS (orT (notT (valT (callE F_is_map_right (consA (nmE 1) (consA (nmE 3) (consA (nmE 6) (consA (nmE 12) nilA))))))) (notT (valT (callE F_alike (consA (callE F_p_marks_of (consA (nmE 6) nilA)) (consA (nmE 7) nilA)))))) (seqS (retS (kE (.bool false))) nilS) nilS) (seqS (ifS (cmpT neC (unE reprV (argE lstV (consA (nmE 3) (consA (nmE 5) (consA (nmE 6) nilA))))) (nmE 9)) (seqS (retS (kE (.bool false))) nilS) nilS) nilS))))))))))))
theorem b_p_law_2_ap {Γ : GS} {M : MS} : b_p_law_2 Γ M = (seqS (parS 3 4 (callE F_house (consA (nmE 1) (consA (kE (.int 4)) nilA))) (callE F_numbers (consA (nmE 1) nilA))) (seqS (setS 5 (callE F_table (consA (nmE 1) (consA (nmE 3) (consA (nmE 4) (consA (kE (.int 2)) nilA)))))) (seqS (setS 6 (callE F_script (consA (nmE 1) (consA (nmE 3) (consA (binE addV (nmE 4) (argE lstV (consA (binE addV (ixE (nmE 4) (unE negV (kE (.int 1)))) (kE (.int 4))) (consA (kE (.int 3)) nilA)))) (consA (kE (.int 12)) (consA (callE F_one (consA (nmE 1) (consA (argE lstV (consA (kE (.int 2)) (consA (kE (.int 3)) (consA (kE (.int 9)) nilA)))) nilA))) nilA))))))) (seqS (par3S 7 8 9 (onlyE (callE F_marks (consA (nmE 6) nilA))) (onlyE (callE F_p_done (consA (nmE 3) (consA (nmE 5) (consA (nmE 6) nilA))))) (onlyE (unE reprV (argE lstV (consA (nmE 3) (consA (nmE 5) (consA (nmE 6) nilA))))))) (seqS (setS 10 (callE F_p_marks_of_M (consA (nmE 6) nilA))) (seqS (ifS (notT (valT (callE F_alike (consA (nmE 10) (consA (nmE 7) nilA))))) (seqS (retS (kE (.bool false))) nilS) nilS) (seqS (exprS (met1 appV (nmE 10) (kE .none))) (seqS (setS 11 (ifE (cmpT gtC (ixE (nmE 4) (kE (.int 0))) (unE negV (kE (.int 9)))) (binE subV (ixE (nmE 4) (kE (.int 0))) (kE (.int 5))) (ixE (nmE 4) (kE (.int 0))))) (seqS (setS 12 (unE risV (onlyE (binE addV (binE addV (binE addV (nmE 4) (nmE 7)) (lcE mkL [13] (seqI (binE addV (nmE 4) (nmE 7))) (nmG 13) yesT e_p_law_1)) (argE lstV (consA (nmE 11) (consA (binE addV (ixE (nmE 4) (unE negV (kE (.int 1)))) (kE (.int 9))) nilA))))))) (seqS (forS (seqI (nmE 12)) (nmG 13) b_p_law_1) (seqS (ifS (orT (notT (valT (callE F_is_map_right (consA (nmE 1) (consA (nmE 3) (consA (nmE 6) (consA (nmE 12) nilA))))))) (notT (valT (callE F_alike (consA (callE F_p_marks_of (consA (nmE 6) nilA)) (consA (nmE 7) nilA)))))) (seqS (retS (kE (.bool false))) nilS) nilS) (seqS (ifS (cmpT neC (unE reprV (argE lstV (consA (nmE 3) (consA (nmE 5) (consA (nmE 6) nilA))))) (nmE 9)) (seqS (retS (kE (.bool false))) nilS) nilS) nilS)))))))))))) Γ M := rfl
/-- law(_law_script_here), behind its first row -/
noncomputable def g_p_law : SF := (seqS (forS (rng1I (kE (.int 4))) (nmG 2) b_p_law_2) (seqS (retS (kE (.bool true))) nilS))
end Z

namespace Z
open PySem PySem.Spec PyProof.Rows L2
/-- is_integer(thing) -/
noncomputable def g_p_is_integer : SF := (seqS (retS (andE (unE (isiV "int") (nmE 0)) (unE notV (unE (isiV "bool") (nmE 0))))) nilS)
noncomputable def F_p_is_integer : FF := defF finD 1 g_p_is_integer
noncomputable def e_p_freed_1 : EF := (argE tupV (consA (nmE 1) (consA (kE (.int 0)) (consA (kE .none) nilA))))
theorem e_p_freed_1_ap {Γ : GS} {M : MS} : e_p_freed_1 Γ M = (argE tupV (consA (nmE 1) (consA (kE (.int 0)) (consA (kE .none) nilA)))) Γ M := rfl
/-- freed(house) -/
noncomputable def g_p_freed : SF := (seqS (retS (unE toTup (lcE mkL [1, 2, 3] (seqI (nmE 0)) (tupG 3 (consG (nmG 1) (consG (nmG 2) (consG (nmG 3) nilG)))) yesT e_p_freed_1))) nilS)
noncomputable def F_p_freed : FF := defF finD 4 g_p_freed
noncomputable def e_p_is_sort_name_1 : EF := (nmE 2)
theorem e_p_is_sort_name_1_ap {Γ : GS} {M : MS} : e_p_is_sort_name_1 Γ M = (nmE 2) Γ M := rfl
/-- is_sort_name(house, thing) -/
noncomputable def g_p_is_sort_name : SF := (seqS (retS (andE (unE (isiV "str") (nmE 1)) (cmpE inC (nmE 1) (lcE mkL [2, 3, 4] (seqI (nmE 0)) (tupG 3 (consG (nmG 2) (consG (nmG 3) (consG (nmG 4) nilG)))) yesT e_p_is_sort_name_1)))) nilS)
noncomputable def F_p_is_sort_name : FF := defF finD 5 g_p_is_sort_name
/-- is_deed(house, thing) -/
noncomputable def g_p_is_deed : SF := (seqS (ifS (orT (notT (valT (unE (isiV "tuple") (nmE 1)))) (orT (cmpT ltC (unE lenV (nmE 1)) (kE (.int 3))) (notT (valT (unE (isiV "str") (ixE (nmE 1) (kE (.int 0)))))))) (seqS (retS (kE (.bool false))) nilS) nilS) (seqS (ifS (notT (valT (callE F_p_is_sort_name (consA (nmE 0) (consA (ixE (nmE 1) (kE (.int 1))) nilA))))) (seqS (retS (kE (.bool false))) nilS) nilS) (seqS (ifS (cmpT eqC (ixE (nmE 1) (kE (.int 0))) (kE (.str "merge"))) (seqS (retS (andE (cmpE eqC (unE lenV (nmE 1)) (kE (.int 3))) (andE (callE F_p_is_sort_name (consA (nmE 0) (consA (ixE (nmE 1) (kE (.int 2))) nilA))) (cmpE neC (ixE (nmE 1) (kE (.int 2))) (ixE (nmE 1) (kE (.int 1))))))) nilS) nilS) (seqS (ifS (notT (valT (callE F_p_is_integer (consA (ixE (nmE 1) (kE (.int 2))) nilA)))) (seqS (retS (kE (.bool false))) nilS) nilS) (seqS (ifS (cmpT eqC (ixE (nmE 1) (kE (.int 0))) (kE (.str "come"))) (seqS (retS (cmpE eqC (unE lenV (nmE 1)) (kE (.int 3)))) nilS) nilS) (seqS (ifS (cmpT eqC (ixE (nmE 1) (kE (.int 0))) (kE (.str "move"))) (seqS (retS (andE (cmpE eqC (unE lenV (nmE 1)) (kE (.int 4))) (andE (cmpE gtC (ixE (nmE 1) (kE (.int 2))) (kE (.int 0))) (andE (callE F_p_is_sort_name (consA (nmE 0) (consA (ixE (nmE 1) (kE (.int 3))) nilA))) (cmpE neC (ixE (nmE 1) (kE (.int 3))) (ixE (nmE 1) (kE (.int 1)))))))) nilS) nilS) (seqS (ifS (cmpT neC (unE lenV (nmE 1)) (kE (.int 3))) (seqS (retS (kE (.bool false))) nilS) nilS) (seqS (retS (orE (andE (cmpE eqC (ixE (nmE 1) (kE (.int 0))) (kE (.str "go"))) (cmpE gtC (ixE (nmE 1) (kE (.int 2))) (kE (.int 0)))) (andE (cmpE eqC (ixE (nmE 1) (kE (.int 0))) (kE (.str "keep"))) (cmpE geC (ixE (nmE 1) (kE (.int 2))) (kE (.int 0)))))) nilS))))))))
noncomputable def F_p_is_deed : FF := defF finD 2 g_p_is_deed
noncomputable def e_p_is_script_1 : EF := (callE F_p_is_deed (consA (nmE 0) (consA (nmE 2) nilA)))
theorem e_p_is_script_1_ap {Γ : GS} {M : MS} : e_p_is_script_1 Γ M = (callE F_p_is_deed (consA (nmE 0) (consA (nmE 2) nilA))) Γ M := rfl
/-- is_script(house, thing) -/
noncomputable def g_p_is_script : SF := (seqS (retS (andE (unE (isiV "tuple") (nmE 1)) (unE allV (lcE mkL [2] (seqI (nmE 1)) (nmG 2) yesT e_p_is_script_1)))) nilS)
noncomputable def F_p_is_script : FF := defF finD 3 g_p_is_script
noncomputable def F_p_done_M : FF := defF finM 8 g_p_done
noncomputable def k_done_1 : EF := (nmE 3)
theorem k_done_1_ap {Γ : GS} {M : MS} : k_done_1 Γ M = (nmE 3) Γ M := rfl
noncomputable def e_done_1 : EF := (unE toListM (ixE (nmE 0) (nmE 3)))
theorem e_done_1_ap {Γ : GS} {M : MS} : e_done_1 Γ M = (unE toListM (ixE (nmE 0) (nmE 3))) Γ M := rfl
noncomputable def b_done_1 : SF := (seqS (parS 5 6 (ixE (nmE 2) (ixE (nmE 4) (kE (.int 1)))) (ixE (nmE 4) (kE (.int 0)))) (seqS (ifS (cmpT eqC (nmE 6) (kE (.str "come"))) (seqS (asgS (unE sortMV (binE addV (nmE 5) (argE lstV (consA (ixE (nmE 4) (kE (.int 2))) nilA)))) (subG (nmE 2) (ixE (nmE 4) (kE (.int 1))))) nilS) (seqS (ifS (cmpT eqC (nmE 6) (kE (.str "keep"))) (seqS (asgS (slE slMV (nmE 5) (someP (binE maxV (kE (.int 0)) (binE subV (unE lenV (nmE 5)) (ixE (nmE 4) (kE (.int 2)))))) noneP) (subG (nmE 2) (ixE (nmE 4) (kE (.int 1))))) nilS) (seqS (ifS (cmpT eqC (nmE 6) (kE (.str "merge"))) (seqS (asgS (unE sortMV (binE addV (ixE (nmE 2) (ixE (nmE 4) (kE (.int 2)))) (nmE 5))) (subG (nmE 2) (ixE (nmE 4) (kE (.int 2))))) (seqS (asgS (argE lstMV nilA) (subG (nmE 2) (ixE (nmE 4) (kE (.int 1))))) nilS)) (seqS (ifS (cmpT geC (unE lenV (nmE 5)) (ixE (nmE 4) (kE (.int 2)))) (seqS (setS 7 (met1 popV (nmE 5) (binE subV (unE lenV (nmE 5)) (ixE (nmE 4) (kE (.int 2)))))) (seqS (ifS (cmpT eqC (nmE 6) (kE (.str "move"))) (seqS (asgS (unE sortMV (binE addV (ixE (nmE 2) (ixE (nmE 4) (kE (.int 3)))) (argE lstV (consA (nmE 7) nilA)))) (subG (nmE 2) (ixE (nmE 4) (kE (.int 3))))) nilS) nilS) nilS)) nilS) nilS)) nilS)) nilS)) nilS))
theorem b_done_1_ap {Γ : GS} {M : MS} : b_done_1 Γ M = (seqS (parS 5 6 (ixE (nmE 2) (ixE (nmE 4) (kE (.int 1)))) (ixE (nmE 4) (kE (.int 0)))) (seqS (ifS (cmpT eqC (nmE 6) (kE (.str "come"))) (seqS (asgS (unE sortMV (binE addV (nmE 5) (argE lstV (consA (ixE (nmE 4) (kE (.int 2))) nilA)))) (subG (nmE 2) (ixE (nmE 4) (kE (.int 1))))) nilS) (seqS (ifS (cmpT eqC (nmE 6) (kE (.str "keep"))) (seqS (asgS (slE slMV (nmE 5) (someP (binE maxV (kE (.int 0)) (binE subV (unE lenV (nmE 5)) (ixE (nmE 4) (kE (.int 2)))))) noneP) (subG (nmE 2) (ixE (nmE 4) (kE (.int 1))))) nilS) (seqS (ifS (cmpT eqC (nmE 6) (kE (.str "merge"))) (seqS (asgS (unE sortMV (binE addV (ixE (nmE 2) (ixE (nmE 4) (kE (.int 2)))) (nmE 5))) (subG (nmE 2) (ixE (nmE 4) (kE (.int 2))))) (seqS (asgS (argE lstMV nilA) (subG (nmE 2) (ixE (nmE 4) (kE (.int 1))))) nilS)) (seqS (ifS (cmpT geC (unE lenV (nmE 5)) (ixE (nmE 4) (kE (.int 2)))) (seqS (setS 7 (met1 popV (nmE 5) (binE subV (unE lenV (nmE 5)) (ixE (nmE 4) (kE (.int 2)))))) (seqS (ifS (cmpT eqC (nmE 6) (kE (.str "move"))) (seqS (asgS (unE sortMV (binE addV (ixE (nmE 2) (ixE (nmE 4) (kE (.int 3)))) (argE lstV (consA (nmE 7) nilA)))) (subG (nmE 2) (ixE (nmE 4) (kE (.int 3))))) nilS) nilS) nilS)) nilS) nilS)) nilS)) nilS)) nilS)) Γ M := rfl
noncomputable def k_done_2 : EF := (nmE 3)
theorem k_done_2_ap {Γ : GS} {M : MS} : k_done_2 Γ M = (nmE 3) Γ M := rfl
noncomputable def e_done_2 : EF := (unE toTup (ixE (nmE 2) (nmE 3)))
theorem e_done_2_ap {Γ : GS} {M : MS} : e_done_2 Γ M = (unE toTup (ixE (nmE 2) (nmE 3))) Γ M := rfl
/-- _law_done(_law_table_here, _law_script_here) -/
noncomputable def g_done : SF := (seqS (setS 2 (dcE mkDM [3] (seqI (unE (altV sortV sortKV) (nmE 0))) (nmG 3) yesT k_done_1 e_done_1)) (seqS (forS (seqI (nmE 1)) (nmG 4) b_done_1) (seqS (retS (lockE 2 (dcE mkD [3] (keysI 2) (nmG 3) yesT k_done_2 e_done_2))) nilS)))
noncomputable def F_done : FF := defF finD 8 g_done
noncomputable def t_in_1 : TF := (valT (callE F_alike (consA (nmE 2) (consA (nmE 1) nilA))))
theorem t_in_1_ap {Γ : GS} {M : MS} : t_in_1 Γ M = (valT (callE F_alike (consA (nmE 2) (consA (nmE 1) nilA)))) Γ M := rfl
noncomputable def e_in_1 : EF := (nmE 2)
theorem e_in_1_ap {Γ : GS} {M : MS} : e_in_1 Γ M = (nmE 2) Γ M := rfl
/-- _law_in(_law_things, _law_thing) -/
noncomputable def g_in : SF := (seqS (retS (cmpE neC (lcE mkL [2] (seqI (nmE 0)) (nmG 2) t_in_1 e_in_1) (argE lstV nilA))) nilS)
noncomputable def F_in : FF := defF finD 3 g_in
/-- _law_is_whole(_law_thing, _law_least) -/
noncomputable def g_is_whole : SF := (seqS (retS (andE (unE (isiV "int") (nmE 0)) (andE (unE notV (unE (isiV "bool") (nmE 0))) (cmpE geC (nmE 0) (nmE 1))))) nilS)
noncomputable def F_is_whole : FF := defF finD 2 g_is_whole
noncomputable def e_is_deed_1 : EF := (ixE (nmE 3) (kE (.int 0)))
theorem e_is_deed_1_ap {Γ : GS} {M : MS} : e_is_deed_1 Γ M = (ixE (nmE 3) (kE (.int 0))) Γ M := rfl
/-- _law_is_deed(_law_house_here, _law_thing) -/
noncomputable def g_is_deed : SF := (seqS (setS 2 (lcE mkL [3] (seqI (nmE 0)) (nmG 3) yesT e_is_deed_1)) (seqS (ifS (orT (notT (valT (unE (isiV "tuple") (nmE 1)))) (orT (cmpT ltC (unE lenV (nmE 1)) (kE (.int 3))) (notT (valT (callE F_in (consA (nmE 2) (consA (ixE (nmE 1) (kE (.int 1))) nilA))))))) (seqS (retS (kE (.bool false))) nilS) nilS) (seqS (ifS (valT (callE F_alike (consA (ixE (nmE 1) (kE (.int 0))) (consA (kE (.str "come")) nilA)))) (seqS (retS (andE (cmpE eqC (unE lenV (nmE 1)) (kE (.int 3))) (callE F_is_whole (consA (ixE (nmE 1) (kE (.int 2))) (consA (ifE (valT (unE (isiV "int") (ixE (nmE 1) (kE (.int 2))))) (ixE (nmE 1) (kE (.int 2))) (kE (.int 0))) nilA))))) nilS) nilS) (seqS (ifS (orT (valT (callE F_alike (consA (ixE (nmE 1) (kE (.int 0))) (consA (kE (.str "go")) nilA)))) (valT (callE F_alike (consA (ixE (nmE 1) (kE (.int 0))) (consA (kE (.str "keep")) nilA))))) (seqS (retS (andE (cmpE eqC (unE lenV (nmE 1)) (kE (.int 3))) (callE F_is_whole (consA (ixE (nmE 1) (kE (.int 2))) (consA (ifE (cmpT eqC (ixE (nmE 1) (kE (.int 0))) (kE (.str "go"))) (kE (.int 1)) (kE (.int 0))) nilA))))) nilS) nilS) (seqS (ifS (valT (callE F_alike (consA (ixE (nmE 1) (kE (.int 0))) (consA (kE (.str "merge")) nilA)))) (seqS (retS (andE (cmpE eqC (unE lenV (nmE 1)) (kE (.int 3))) (andE (callE F_in (consA (nmE 2) (consA (ixE (nmE 1) (kE (.int 2))) nilA))) (cmpE neC (ixE (nmE 1) (kE (.int 2))) (ixE (nmE 1) (kE (.int 1))))))) nilS) nilS) (seqS (ifS (orT (notT (valT (callE F_alike (consA (ixE (nmE 1) (kE (.int 0))) (consA (kE (.str "move")) nilA))))) (cmpT neC (unE lenV (nmE 1)) (kE (.int 4)))) (seqS (retS (kE (.bool false))) nilS) nilS) (seqS (retS (andE (callE F_is_whole (consA (ixE (nmE 1) (kE (.int 2))) (consA (kE (.int 1)) nilA))) (andE (callE F_in (consA (nmE 2) (consA (ixE (nmE 1) (kE (.int 3))) nilA))) (cmpE neC (ixE (nmE 1) (kE (.int 3))) (ixE (nmE 1) (kE (.int 1))))))) nilS)))))))
noncomputable def F_is_deed : FF := defF finD 4 g_is_deed
noncomputable def e_freed_1 : EF := (argE tupV (consA (ixE (nmE 1) (kE (.int 0))) (consA (kE (.int 0)) (consA (kE .none) nilA))))
theorem e_freed_1_ap {Γ : GS} {M : MS} : e_freed_1 Γ M = (argE tupV (consA (ixE (nmE 1) (kE (.int 0))) (consA (kE (.int 0)) (consA (kE .none) nilA)))) Γ M := rfl
/-- _law_freed(_law_house_here) -/
noncomputable def g_freed : SF := (seqS (retS (unE toTup (lcE mkL [1] (seqI (nmE 0)) (nmG 1) yesT e_freed_1))) nilS)
noncomputable def F_freed : FF := defF finD 2 g_freed
noncomputable def e_other_deed_1 : EF := (ixE (nmE 4) (kE (.int 0)))
theorem e_other_deed_1_ap {Γ : GS} {M : MS} : e_other_deed_1 Γ M = (ixE (nmE 4) (kE (.int 0))) Γ M := rfl
noncomputable def e_other_deed_2 : EF := (binE addV (binE addV (slE slV (nmE 2) noneP (someP (kE (.int 2)))) (argE tupV (consA (nmE 6) nilA))) (slE slV (nmE 2) (someP (kE (.int 3))) noneP))
theorem e_other_deed_2_ap {Γ : GS} {M : MS} : e_other_deed_2 Γ M = (binE addV (binE addV (slE slV (nmE 2) noneP (someP (kE (.int 2)))) (argE tupV (consA (nmE 6) nilA))) (slE slV (nmE 2) (someP (kE (.int 3))) noneP)) Γ M := rfl
/-- _law_other_deed(_law_bag_here, _law_house_here, _law_deed_here) -/
noncomputable def g_other_deed : SF := (seqS (setS 3 (lcE mkL [4] (seqI (nmE 1)) (nmG 4) yesT e_other_deed_1)) (seqS (setS 5 (argE lstV (consA (kE .none) (consA (argE tupV nilA) (consA (slE slV (nmE 2) noneP (someP (kE (.int 2)))) (consA (binE addV (nmE 2) (slE slV (nmE 2) (someP (unE negV (kE (.int 1)))) noneP)) (consA (unE toList (nmE 2)) (consA (binE addV (binE addV (slE slV (nmE 2) noneP (someP (kE (.int 1)))) (argE tupV (consA (kE (.str "none")) nilA))) (slE slV (nmE 2) (someP (kE (.int 2))) noneP)) (consA (binE addV (binE addV (slE slV (nmE 2) noneP (someP (kE (.int 2)))) (argE tupV (consA (kE .none) nilA))) (slE slV (nmE 2) (someP (kE (.int 3))) noneP)) nilA))))))))) (seqS (setS 5 (binE addV (nmE 5) (lcE mkL [6] (seqI (argE tupV (consA (kE (.bool true)) (consA (kE (.int 0)) (consA (unE negV (kE (.int 1))) nilA))))) (nmG 6) yesT e_other_deed_2))) (seqS (setS 5 (binE addV (nmE 5) (argE lstV (consA (argE tupV (consA (ixE (nmE 2) (kE (.int 0))) (consA (ixE (nmE 2) (kE (.int 1))) (consA (binE powV (kE (.int 10)) (kE (.int 35))) nilA)))) (consA (argE tupV (consA (kE (.str "come")) (consA (ixE (nmE 3) (kE (.int 0))) (consA (binE powV (kE (.int 10)) (kE (.int 38))) nilA)))) (consA (argE tupV (consA (kE (.str "go")) (consA (ixE (nmE 3) (kE (.int 0))) (consA (kE (.int 0)) nilA)))) (consA (argE tupV (consA (kE (.str "keep")) (consA (ixE (nmE 3) (kE (.int 0))) (consA (kE (.int 0)) nilA)))) nilA))))))) (seqS (setS 5 (binE addV (nmE 5) (argE lstV (consA (argE tupV (consA (kE (.str "move")) (consA (ixE (nmE 3) (kE (.int 0))) (consA (kE (.int 1)) (consA (ixE (nmE 3) (kE (.int 0))) nilA))))) nilA)))) (seqS (setS 5 (binE addV (nmE 5) (argE lstV (consA (argE tupV (consA (kE (.str "merge")) (consA (ixE (nmE 3) (kE (.int 0))) (consA (ixE (nmE 3) (kE (.int 0))) nilA)))) (consA (argE tupV (consA (kE (.str "merge")) (consA (ixE (nmE 3) (kE (.int 0))) (consA (ixE (nmE 3) (unE negV (kE (.int 1)))) nilA)))) (consA (argE tupV (consA (kE (.str "come")) (consA (ixE (nmE 3) (kE (.int 0))) (consA (kE (.str "1")) nilA)))) (consA (argE tupV (consA (kE (.str "stay")) (consA (ixE (nmE 3) (kE (.int 0))) (consA (kE (.int 1)) nilA)))) nilA))))))) (seqS (setS 5 (binE addV (nmE 5) (argE lstV (consA (argE tupV (consA (kE (.str "move")) (consA (ixE (nmE 3) (kE (.int 0))) (consA (kE (.int 1)) (consA (ixE (nmE 3) (unE negV (kE (.int 1)))) nilA))))) (consA (argE tupV (consA (ixE (nmE 2) (kE (.int 0))) (consA (argE lstV nilA) (consA (kE (.int 1)) nilA)))) (consA (argE tupV (consA (argE lstV nilA) (consA (ixE (nmE 3) (kE (.int 0))) (consA (kE (.int 1)) nilA)))) (consA (argE tupV (consA (ixE (nmE 2) (kE (.int 0))) (consA (ixE (nmE 3) (kE (.int 0))) (consA (kE (.dict [])) nilA)))) (consA (kE (.str "go")) (consA (kE (.int 0)) (consA (kE (.dict [])) nilA)))))))))) (seqS (setS 5 (binE addV (nmE 5) (argE lstV (consA (argE tupV (consA (kE (.str "move")) (consA (ixE (nmE 3) (kE (.int 0))) (consA (kE (.int 1)) (consA (kE .none) nilA))))) (consA (argE tupV (consA (kE (.str "merge")) (consA (ixE (nmE 3) (kE (.int 0))) (consA (kE (.bool true)) nilA)))) (consA (argE tupV (consA (kE (.str "keep")) (consA (ixE (nmE 3) (unE negV (kE (.int 1)))) (consA (kE (.bool false)) nilA)))) (consA (argE tupV (consA (kE (.str "go")) (consA (ixE (nmE 3) (kE (.int 0))) (consA (kE (.int 99)) nilA)))) nilA))))))) (seqS (retS (callE F_one (consA (nmE 0) (consA (nmE 5) nilA)))) nilS)))))))))
noncomputable def F_other_deed : FF := defF finD 7 g_other_deed
noncomputable def e_are_judged_1 : EF := (callE F_other_deed (consA (nmE 0) (consA (nmE 1) (consA (nmE 4) nilA))))
theorem e_are_judged_1_ap {Γ : GS} {M : MS} : e_are_judged_1 Γ M = (callE F_other_deed (consA (nmE 0) (consA (nmE 1) (consA (nmE 4) nilA)))) Γ M := rfl
noncomputable def b_are_judged_1 : SF := (seqS (ifS (notT (valT (callE F_alike (consA (callE F_p_is_deed (consA (nmE 1) (consA (nmE 5) nilA))) (consA (callE F_is_deed (consA (nmE 1) (consA (nmE 5) nilA))) nilA))))) (seqS (retS (kE (.bool false))) nilS) nilS) nilS)
theorem b_are_judged_1_ap {Γ : GS} {M : MS} : b_are_judged_1 Γ M = (seqS (ifS (notT (valT (callE F_alike (consA (callE F_p_is_deed (consA (nmE 1) (consA (nmE 5) nilA))) (consA (callE F_is_deed (consA (nmE 1) (consA (nmE 5) nilA))) nilA))))) (seqS (retS (kE (.bool false))) nilS) nilS) nilS) Γ M := rfl
noncomputable def t_are_judged_1 : TF := (notT (valT (callE F_is_deed (consA (nmE 1) (consA (nmE 4) nilA)))))
theorem t_are_judged_1_ap {Γ : GS} {M : MS} : t_are_judged_1 Γ M = (notT (valT (callE F_is_deed (consA (nmE 1) (consA (nmE 4) nilA))))) Γ M := rfl
noncomputable def e_are_judged_2 : EF := (nmE 4)
theorem e_are_judged_2_ap {Γ : GS} {M : MS} : e_are_judged_2 Γ M = (nmE 4) Γ M := rfl
noncomputable def b_are_judged_2 : SF := (seqS (setS 8 (andE (unE (isiV "tuple") (nmE 5)) (cmpE (altC eqC eqXW) (lcE mkL [4] (seqI (nmE 5)) (nmG 4) t_are_judged_1 e_are_judged_2) (argE lstV nilA)))) (seqS (ifS (notT (valT (callE F_alike (consA (callE F_p_is_script (consA (nmE 1) (consA (nmE 5) nilA))) (consA (nmE 8) nilA))))) (seqS (retS (kE (.bool false))) nilS) nilS) nilS))
theorem b_are_judged_2_ap {Γ : GS} {M : MS} : b_are_judged_2 Γ M = (seqS (setS 8 (andE (unE (isiV "tuple") (nmE 5)) (cmpE (altC eqC eqXW) (lcE mkL [4] (seqI (nmE 5)) (nmG 4) t_are_judged_1 e_are_judged_2) (argE lstV nilA)))) (seqS (ifS (notT (valT (callE F_alike (consA (callE F_p_is_script (consA (nmE 1) (consA (nmE 5) nilA))) (consA (nmE 8) nilA))))) (seqS (retS (kE (.bool false))) nilS) nilS) nilS)) Γ M := rfl
/-- _law_are_judged(_law_bag_here, _law_house_here, _law_script_here) -/
noncomputable def g_are_judged : SF := (seqS (setS 3 (binE addV (unE toList (nmE 2)) (lcE mkL [4] (seqI (binE addV (unE toList (nmE 2)) (argE lstV (consA (argE tupV (consA (kE (.str "go")) (consA (ixE (ixE (nmE 1) (kE (.int 0))) (kE (.int 0))) (consA (kE (.int 1)) nilA)))) nilA)))) (nmG 4) yesT e_are_judged_1))) (seqS (forS (seqI (nmE 3)) (nmG 5) b_are_judged_1) (seqS (setS 6 (callE F_take (consA (nmE 0) (consA (binE addV (unE lenV (nmE 2)) (kE (.int 1))) nilA)))) (seqS (setS 7 (argE lstV (consA (nmE 2) (consA (unE toList (nmE 2)) (consA (kE .none) (consA (binE addV (binE addV (slE slV (nmE 2) noneP (someP (nmE 6))) (argE tupV (consA (callE F_other_deed (consA (nmE 0) (consA (nmE 1) (consA (argE tupV (consA (kE (.str "go")) (consA (ixE (ixE (nmE 1) (kE (.int 0))) (kE (.int 0))) (consA (kE (.int 1)) nilA)))) nilA)))) nilA))) (slE slV (nmE 2) (someP (nmE 6)) noneP)) nilA)))))) (seqS (forS (seqI (binE addV (nmE 7) (argE lstV (consA (argE tupV (consA (nmE 2) nilA)) (consA (kE (.int 7)) (consA (kE (.dict [])) nilA)))))) (nmG 5) b_are_judged_2) (seqS (retS (kE (.bool true))) nilS))))))
noncomputable def F_are_judged : FF := defF finD 9 g_are_judged
noncomputable def b_p_law2_1 : SF := (seqS (setS 10 (callE F_p_done_M (consA (nmE 3) (consA (nmE 5) (consA (nmE 6) nilA))))) (seqS (ifS (notT (valT (callE F_alike (consA (nmE 10) (consA (nmE 8) nilA))))) (seqS (retS (kE (.bool false))) nilS) nilS) (seqS (asgS (kE .none) (subG (nmE 10) (ixE (ixE (nmE 3) (kE (.int 0))) (kE (.int 0))))) nilS)))
theorem b_p_law2_1_ap {Γ : GS} {M : MS} : b_p_law2_1 Γ M = (seqS (setS 10 (callE F_p_done_M (consA (nmE 3) (consA (nmE 5) (consA (nmE 6) nilA))))) (seqS (ifS (notT (valT (callE F_alike (consA (nmE 10) (consA (nmE 8) nilA))))) (seqS (retS (kE (.bool false))) nilS) nilS) (seqS (asgS (kE .none) (subG (nmE 10) (ixE (ixE (nmE 3) (kE (.int 0))) (kE (.int 0))))) nilS))) Γ M := rfl
noncomputable def b_p_law2_2 : SF := (seqS (parS 3 4 (callE F_house (consA (nmE 1) (consA (kE (.int 4)) nilA))) (callE F_numbers (consA (nmE 1) nilA))) (seqS (setS 5 (callE F_table (consA (nmE 1) (consA (nmE 3) (consA (nmE 4) (consA (kE (.int 2)) nilA)))))) (seqS (setS 6 (callE F_script (consA (nmE 1) (consA (nmE 3) (consA (binE addV (nmE 4) (argE lstV (consA (kE (.int 0)) nilA))) (consA (kE (.int 12)) (consA (callE F_one (consA (nmE 1) (consA (argE lstV (consA (kE (.int 2)) (consA (kE (.int 3)) (consA (kE (.int 9)) nilA)))) nilA))) nilA))))))) (seqS (parS 7 8 (unE reprV (argE lstV (consA (nmE 3) (consA (nmE 5) (consA (nmE 6) nilA))))) (callE F_done (consA (nmE 5) (consA (nmE 6) nilA)))) (seqS (forS (rng1I (kE (.int 2))) (nmG 9) b_p_law2_1) (seqS (setS 11 (callE F_take (consA (nmE 1) (consA (binE addV (unE lenV (nmE 6)) (kE (.int 1))) nilA)))) (seqS (ifS (notT (valT (callE F_alike (consA (callE F_p_done (consA (callE F_p_freed (consA (nmE 3) nilA)) (consA (callE F_p_done (consA (nmE 3) (consA (nmE 5) (consA (slE slV (nmE 6) noneP (someP (nmE 11))) nilA)))) (consA (slE slV (nmE 6) (someP (nmE 11)) noneP) nilA)))) (consA (nmE 8) nilA))))) (seqS (retS (kE (.bool false))) nilS) nilS) (seqS (ifS (orT (notT (valT (callE F_alike (consA (callE F_p_freed (consA (nmE 3) nilA)) (consA (callE F_freed (consA (nmE 3) nilA)) nilA))))) (notT (valT (callE F_are_judged (consA (nmE 1) (consA (nmE 3) (consA (nmE 6) nilA))))))) (seqS (retS (kE (.bool false))) nilS) nilS) (seqS (ifS (cmpT neC (unE reprV (argE lstV (consA (nmE 3) (consA (nmE 5) (consA (nmE 6) nilA))))) (nmE 7)) (seqS (retS (kE (.bool false))) nilS) nilS) nilS)))))))))
theorem b_p_law2_2_ap {Γ : GS} {M : MS} : b_p_law2_2 Γ M = (seqS (parS 3 4 (callE F_house (consA (nmE 1) (consA (kE (.int 4)) nilA))) (callE F_numbers (consA (nmE 1) nilA))) (seqS (setS 5 (callE F_table (consA (nmE 1) (consA (nmE 3) (consA (nmE 4) (consA (kE (.int 2)) nilA)))))) (seqS (setS 6 (callE F_script (consA (nmE 1) (consA (nmE 3) (consA (binE addV (nmE 4) (argE lstV (consA (kE (.int 0)) nilA))) (consA (kE (.int 12)) (consA (callE F_one (consA (nmE 1) (consA (argE lstV (consA (kE (.int 2)) (consA (kE (.int 3)) (consA (kE (.int 9)) nilA)))) nilA))) nilA))))))) (seqS (parS 7 8 (unE reprV (argE lstV (consA (nmE 3) (consA (nmE 5) (consA (nmE 6) nilA))))) (callE F_done (consA (nmE 5) (consA (nmE 6) nilA)))) (seqS (forS (rng1I (kE (.int 2))) (nmG 9) b_p_law2_1) (seqS (setS 11 (callE F_take (consA (nmE 1) (consA (binE addV (unE lenV (nmE 6)) (kE (.int 1))) nilA)))) (seqS (ifS (notT (valT (callE F_alike (consA (callE F_p_done (consA (callE F_p_freed (consA (nmE 3) nilA)) (consA (callE F_p_done (consA (nmE 3) (consA (nmE 5) (consA (slE slV (nmE 6) noneP (someP (nmE 11))) nilA)))) (consA (slE slV (nmE 6) (someP (nmE 11)) noneP) nilA)))) (consA (nmE 8) nilA))))) (seqS (retS (kE (.bool false))) nilS) nilS) (seqS (ifS (orT (notT (valT (callE F_alike (consA (callE F_p_freed (consA (nmE 3) nilA)) (consA (callE F_freed (consA (nmE 3) nilA)) nilA))))) (notT (valT (callE F_are_judged (consA (nmE 1) (consA (nmE 3) (consA (nmE 6) nilA))))))) (seqS (retS (kE (.bool false))) nilS) nilS) (seqS (ifS (cmpT neC (unE reprV (argE lstV (consA (nmE 3) (consA (nmE 5) (consA (nmE 6) nilA))))) (nmE 7)) (seqS (retS (kE (.bool false))) nilS) nilS) nilS))))))))) Γ M := rfl
/-- law(_law_script_here), behind its first row -/
noncomputable def g_p_law2 : SF := (seqS (forS (rng1I (kE (.int 4))) (nmG 2) b_p_law2_2) (seqS (retS (kE (.bool true))) nilS))
end Z

/-! P1: the draws. -/
namespace Z
open PySem PySem.Spec PyProof.Rows L2
@[simp] theorem sizeLine_eq : sizeLine = 16777216 := rfl
theorem bag_ix {b : Bag} {i : Int} {M : MS} : ixO (.int i) M (some (bagO b)) = (atI [W.d (.int b.cur), .d (.int b.st), .d (.int b.ix), .d (.list (b.cells.map .int))] i).map fun w => (w, M) := rfl
theorem bag_set0 {b : Bag} {i : Int} {R : MS} : setO (.int 0) (.d (.int i)) 0 (bagO b :: R) (some (bagO b)) = some (bagO { b with cur := i } :: R) := rfl
theorem bag_set1 {b : Bag} {i : Int} {R : MS} : setO (.int 1) (.d (.int i)) 0 (bagO b :: R) (some (bagO b)) = some (bagO { b with st := i } :: R) := rfl
theorem bag_set2 {b : Bag} {i : Int} {R : MS} : setO (.int 2) (.d (.int i)) 0 (bagO b :: R) (some (bagO b)) = some (bagO { b with ix := i } :: R) := rfl
theorem bag_old {b : Bag} : (oldV (bagO b) (.int 2)).bind intW = some b.ix := rfl
theorem finOk_bag {b b' : Bag} {R N : MS} : FinOk (bagO b :: R) (bagO b' :: (R ++ N)) := fun k mo hk e => by
  cases k with
  | zero => cases e; exact .inr rfl
  | succ k =>
    refine .inl ?_
    rw [List.getElem?_cons_succ] at e ⊢
    rw [List.getElem?_append_left (by simpa using hk)] at e
    exact e
theorem finD_bag {b b' : Bag} {R N : MS} {x : PyData} : finD (bagO b :: R) (.d x) (bagO b' :: (R ++ N)) = .ok (.d x) (bagO b' :: R) := finD_d finOk_bag (by simp)
theorem finD_bag0 {b b' : Bag} {R : MS} {x : PyData} : finD (bagO b :: R) (.d x) (bagO b' :: R) = .ok (.d x) (bagO b' :: R) := by
  have := finD_bag (b := b) (b' := b') (R := R) (N := []) (x := x)
  rwa [List.append_nil] at this
noncomputable def rsFin (fin : FinF) (M : MS) (r : RS) : Res W := match r with
  | .nx _ M' => fin M (.d .none) M'
  | .rt w M' => fin M w M'
  | .ex x _ M' => finX M x M'
  | _ => .bad
theorem defF_ap {fin : FinF} {n : Nat} {g : SF} {ws : List W} {M : MS} : defF fin n g ws M = rsFin fin M (g (ws.map some ++ List.replicate (n - ws.length) none) M) := rfl
@[simp] theorem rsFin_rt {fin : FinF} {M M' : MS} {w : W} : rsFin fin M (.rt w M') = fin M w M' := rfl
@[simp] theorem rsFin_nx {fin : FinF} {Γ : GS} {M M' : MS} : rsFin fin M (.nx Γ M') = fin M (.d .none) M' := rfl
@[simp] theorem rsFin_ex {fin : FinF} {Γ : GS} {M M' : MS} {x : Exc} : rsFin fin M (.ex x Γ M') = finX M x M' := rfl
theorem take_ok {b : Bag} (gb : b.Good) {n : Int} (h0 : 0 < n) (h1 : n < 1073741824) : ∃ (i : Int) (b' : Bag), b'.Good ∧ 0 ≤ i ∧ i < n ∧ ∀ R : MS, F_take [.m 0, .d (.int n)] (bagO b :: R) = .ok (.d (.int i)) (bagO b' :: R) := by
  obtain ⟨c, hc, ec⟩ := bag_head gb
  have hz : (cutD (b.cells.map PyData.int) (some b.ix) none).length + 1 ≤ 16777216 := bag_size gb (some b.ix)
  by_cases hcur : b.cur = 0
  · by_cases hbig : (1000000000000000000 : Int) ≤ c
    · let b1 : Bag := ⟨c, b.st, b.ix + 1, b.cells⟩
      let s1 : Int := (b.st * 48271 + c % 2147483647 + 7919 * (b.ix + 1)) % 2147483647
      have hs : 0 ≤ s1 ∧ s1 < 2147483647 := ⟨Int.emod_nonneg _ (by decide), Int.emod_lt_of_pos _ (by decide)⟩
      refine ⟨c % n, ⟨c / n, s1, b.ix + 1, b.cells⟩, ⟨Int.ediv_nonneg hc (by omega), hs.1, hs.2, by have := gb.ix; show 0 ≤ b.ix + 1; omega, gb.len, gb.all⟩, Int.emod_nonneg _ (by omega), Int.emod_lt_of_pos _ h0, fun R => ?_⟩
      have hc0 : 0 < c := by omega
      simp [F_take, defF_ap, g_take, hcur, bag_ix, h0, h1, bag_set0, bag_set1, bag_set2, bag_old, hz, ec, hbig, hc0, finD_bag0, s1]
    · let s1 : Int := (b.st * 48271 + c % 2147483647 + 7919 * (b.ix + 1)) % 2147483647
      have hs : 0 ≤ s1 ∧ s1 < 2147483647 := ⟨Int.emod_nonneg _ (by decide), Int.emod_lt_of_pos _ (by decide)⟩
      have hbg : 0 ≤ ((s1 + 1) * 39373) % 1000000007 ∧ ((s1 + 1) * 39373) % 1000000007 < 1000000007 := ⟨Int.emod_nonneg _ (by decide), Int.emod_lt_of_pos _ (by decide)⟩
      refine ⟨((((((s1 + 1) * 39373) % 1000000007 * (((s1 + 1) * 39373) % 1000000007)) % 998244353 * 30011) % 998244353) / 7) % n, ⟨0, s1, b.ix + 1, b.cells⟩, ⟨by show (0 : Int) ≤ 0; decide, hs.1, hs.2, by have := gb.ix; show 0 ≤ b.ix + 1; omega, gb.len, gb.all⟩, Int.emod_nonneg _ (by omega), Int.emod_lt_of_pos _ h0, fun R => ?_⟩
      have hb1 : -18446744073709551616 < ((s1 + 1) * 39373) % 1000000007 := by omega
      have hb2 : ((s1 + 1) * 39373) % 1000000007 < 18446744073709551616 := by omega
      simp [F_take, defF_ap, g_take, hcur, bag_ix, h0, h1, bag_set0, bag_set1, bag_set2, bag_old, hz, ec, hbig, finD_bag0, s1, hb1, hb2]
  · have hp : 0 < b.cur := by have := gb.cur; omega
    refine ⟨b.cur % n, { b with cur := b.cur / n }, { gb with cur := Int.ediv_nonneg gb.cur (by omega) }, Int.emod_nonneg _ (by omega), Int.emod_lt_of_pos _ h0, fun R => ?_⟩
    simp [F_take, defF_ap, g_take, hcur, hp, bag_ix, h0, h1, bag_set0, finD_bag0]
end Z

/-! P2: one of a list, a list mixed; the ends of defs that make a list or a dict; comprehensions that draw. -/
namespace Z
open PySem PySem.Spec PyProof.Rows L2
theorem frz_dat {P : Nat → Bool} {M : MS} {n : Nat} {d : PyData} : frz P M n (.d d) = some d := by cases n <;> rfl
theorem optAll_dat {P : Nat → Bool} {M : MS} {n : Nat} : ∀ ds : List PyData, optAll ((ds.map W.d).map (frz P M n)) = some ds
  | [] => rfl
  | d :: ds => by
    rw [List.map_cons, List.map_cons, frz_dat]
    show (optAll _).map _ = _
    rw [optAll_dat ds]; rfl
theorem optAllK_dat {P : Nat → Bool} {M : MS} {n : Nat} : ∀ ks : List (Key × PyData), optAllK ((ks.map fun q => (q.1, W.d q.2)).map fun q => (q.1, frz P M n q.2)) = some ks
  | [] => rfl
  | q :: ks => by
    rw [List.map_cons, List.map_cons, frz_dat]
    show (optAllK _).map _ = _
    rw [optAllK_dat ks]; rfl
/-- a new list of data is the answer: data for the caller -/
theorem finD_l {M0 M M' : MS} {k : Nat} {es : List PyData} (h : FinOk M0 M) (hk : M0.length ≤ k) (hm : M[k]? = some (.lst (es.map .d))) (e : M.take M0.length = M') : finD M0 (.m k) M = .ok (.d (.list es)) M' := by
  unfold finD
  rw [if_pos h, e]
  have hn : ¬ k < M0.length := by omega
  simp only [hn, if_false]
  have : frz (fun j => decide (M0.length ≤ j)) M 12 (.m k) = some (.list es) := by
    show (if decide (M0.length ≤ k) = true then (match M[k]? with
      | some (.lst ws) => (optAll (ws.map (frz (fun j => decide (M0.length ≤ j)) M 11))).map PyData.list
      | some (.dic ks) => (optAllK (ks.map fun q => (q.1, frz (fun j => decide (M0.length ≤ j)) M 11 q.2))).map dictK
      | _ => none) else none) = _
    rw [if_pos (by simpa using hk), hm]
    show (optAll _).map _ = _
    rw [optAll_dat]; rfl
  rw [this]
theorem finD_k {M0 M M' : MS} {k : Nat} {ks : List (Key × PyData)} (h : FinOk M0 M) (hk : M0.length ≤ k) (hm : M[k]? = some (.dic (ks.map fun q => (q.1, W.d q.2)))) (e : M.take M0.length = M') : finD M0 (.m k) M = .ok (.d (dictK ks)) M' := by
  unfold finD
  rw [if_pos h, e]
  have hn : ¬ k < M0.length := by omega
  simp only [hn, if_false]
  have : frz (fun j => decide (M0.length ≤ j)) M 12 (.m k) = some (dictK ks) := by
    show (if decide (M0.length ≤ k) = true then (match M[k]? with
      | some (.lst ws) => (optAll (ws.map (frz (fun j => decide (M0.length ≤ j)) M 11))).map PyData.list
      | some (.dic ks) => (optAllK (ks.map fun q => (q.1, frz (fun j => decide (M0.length ≤ j)) M 11 q.2))).map dictK
      | _ => none) else none) = _
    rw [if_pos (by simpa using hk), hm]
    show (optAllK _).map _ = _
    rw [optAllK_dat]; rfl
  rw [this]
theorem finD_bagL {b b' : Bag} {R N : MS} {j : Nat} {es : List PyData} (hm : N[j]? = some (.lst (es.map .d))) : finD (bagO b :: R) (.m (R.length + j + 1)) (bagO b' :: (R ++ N)) = .ok (.d (.list es)) (bagO b' :: R) :=
  finD_l finOk_bag (by simp) (by rw [List.getElem?_cons_succ, get_app]; exact hm) (by simp)
theorem finD_bagK {b b' : Bag} {R N : MS} {j : Nat} {ks : List (Key × PyData)} (hm : N[j]? = some (.dic (ks.map fun q => (q.1, W.d q.2)))) : finD (bagO b :: R) (.m (R.length + j + 1)) (bagO b' :: (R ++ N)) = .ok (.d (dictK ks)) (bagO b' :: R) :=
  finD_k finOk_bag (by simp) (by rw [List.getElem?_cons_succ, get_app]; exact hm) (by simp)
theorem one_ok {b : Bag} (gb : b.Good) {w : W} {ds : List PyData} (hw : SeqD w ds) (h0 : 0 < ds.length) (h1 : ds.length < 1000) : ∃ (d : PyData) (b' : Bag), b'.Good ∧ d ∈ ds ∧ ∀ R : MS, F_one [.m 0, w] (bagO b :: R) = .ok (.d d) (bagO b' :: R) := by
  obtain ⟨i, b', g', hi0, hi1, e⟩ := take_ok gb (n := ds.length) (by omega) (by omega)
  obtain ⟨d, ed, md⟩ := atI_get (xs := ds) hi0 hi1
  refine ⟨d, b', g', md, fun R => ?_⟩
  rcases hw with rfl | rfl
  · simp [F_one, defF_ap, g_one, e, ed, finD_bag0]
  · simp [F_one, defF_ap, g_one, e, ed, finD_bag0]
theorem mixed_loop {w : W} : ∀ (ds es : List PyData) (b : Bag), b.Good → es.length + ds.length < 1000 → ∀ o : Option W, ∃ (es' : List PyData) (b' : Bag) (o' : Option W), b'.Good ∧ es'.Perm (es ++ ds) ∧
    ∀ R : MS, forL (nmG 3) b_mixed_1 ds [some (.m 0), some w, some (.m (R.length + 1)), o] (bagO b :: (R ++ [.lst (es.map .d)])) = .nx [some (.m 0), some w, some (.m (R.length + 1)), o'] (bagO b' :: (R ++ [.lst (es'.map .d)]))
  | [], es, b, gb, hl, o => ⟨es, b, o, gb, by rw [List.append_nil], fun R => rfl⟩
  | d :: ds, es, b, gb, hl, o => by
    rw [List.length_cons] at hl
    obtain ⟨i, b1, g1, hi0, hi1, e⟩ := take_ok gb (n := (es.length : Int) + 1) (by omega) (by omega)
    obtain ⟨es', b', o', g', hp, e2⟩ := mixed_loop ds (es.take i.toNat ++ [d] ++ es.drop i.toNat) b1 g1 (by simp; omega) (some (.d d))
    refine ⟨es', b', o', g', hp.trans ?_, fun R => ?_⟩
    · have := (perm_insert es i.toNat d).append_right ds
      simpa using this
    · have hi2 : i < 9223372036854775808 := by omega
      have hl2 : es.length < 16777216 := by omega
      have e3 := e2 R
      simp only [List.map_append, List.map_take, List.map_drop, List.map_cons, List.map_nil] at e3
      simp [forL, b_mixed_1_ap, e, hi0, hi2, hl2]
      simpa using e3
theorem mixed_ok {b : Bag} (gb : b.Good) {w : W} {ds : List PyData} (hw : SeqD w ds) (h1 : ds.length < 1000) : ∃ (es : List PyData) (b' : Bag), b'.Good ∧ es.Perm ds ∧ ∀ R : MS, F_mixed [.m 0, w] (bagO b :: R) = .ok (.d (.list es)) (bagO b' :: R) := by
  obtain ⟨es, b', o', g', hp, e⟩ := mixed_loop (w := w) ds [] b gb (by simpa using h1) none
  refine ⟨es, b', g', by simpa using hp, fun R => ?_⟩
  have e2 := e R
  have e3 := finD_bagL (b := b) (b' := b') (R := R) (N := [.lst (es.map .d)]) (j := 0) (es := es) rfl
  simp only [List.map_nil] at e2
  rcases hw with rfl | rfl
  · simp [F_mixed, defF_ap, g_mixed, e2, e3]
  · simp [F_mixed, defF_ap, g_mixed, e2, e3]
end Z

/-! P3: displays, sorting, comprehensions for simp; houses. -/
namespace Z
open PySem PySem.Spec PyProof.Rows L2
section
variable {M M' : MS} {ws : List W} {ds : List PyData} {ns : List Int} {ss : List Str} {Γ : GS} {tg : TGF} {t : TF} {f : EF}
def lstB (ws : List W) (M : MS) : Option (List PyData) → Option (W × MS)
  | some ds => chk ds.length (some (.d (.list ds), M))
  | none => chk ws.length (some (.m M.length, M ++ [.lst ws]))
@[simp] theorem lstV_ap : lstV ws M = lstB ws M (datsW ws) := by unfold lstV lstB; cases datsW ws <;> rfl
@[simp] theorem lstB_some : lstB ws M (some ds) = chk ds.length (some (.d (.list ds), M)) := rfl
@[simp] theorem lstB_none : lstB ws M none = chk ws.length (some (.m M.length, M ++ [.lst ws])) := rfl
@[simp] theorem tupV_apS : tupV ws M = (datsW ws).bind fun ds => chk ds.length (some (.d (.tuple ds), M)) := rfl
@[simp] theorem sort_ns : sortV (.d (.list (ns.map .int))) M = some (.d (.list ((sortI ns).map .int)), M) := by unfold sortV lstD; simp
@[simp] theorem sort_ss : sortV (.d (.list (ss.map .str))) M = if ss.length < 64 then some (.d (.list ((sortS ss).map .str)), M) else none := by
  unfold sortV lstD
  by_cases h : ss.length < 64
  · simp [sortD_strs h, h]
  · have : sortD (ss.map .str) = none := by
      unfold sortD
      cases ss with
      | nil => simp at h
      | cons s ss =>
        rw [show intsD ((s :: ss).map PyData.str) = none from rfl, strsD_map]
        dsimp only
        rw [if_neg h]
    simp [this, h]
def lcM (mk : List W → MS → Option (W × MS)) (r : Res (List W)) : Res W := r.bind fun ws M2 => Res.of (mk ws M2)
@[simp] theorem lcR_ap {mk : List W → MS → Option (W × MS)} {vs : List Nat} : lcR mk tg t f vs Γ ds M = if ds.length < sizeLine then lcM mk (lcL tg t f (wipeG Γ vs) ds M) else .bad := rfl
@[simp] theorem lcM_ok {mk : List W → MS → Option (W × MS)} : lcM mk (.ok ws M) = Res.of (mk ws M) := rfl
@[simp] theorem wipe_nil : wipeG Γ [] = Γ := rfl
@[simp] theorem wipe_cons {v : Nat} {vs : List Nat} : wipeG Γ (v :: vs) = (wipeG Γ vs).set v none := rfl
def mkB (ws : List W) (M : MS) : Option (List PyData) → Option (W × MS)
  | some ds => some (.d (.list ds), M)
  | none => some (.m M.length, M ++ [.lst ws])
@[simp] theorem mkL_ap : mkL ws M = mkB ws M (datsW ws) := by unfold mkL mkB; cases datsW ws <;> rfl
@[simp] theorem mkB_some : mkB ws M (some ds) = some (.d (.list ds), M) := rfl
@[simp] theorem mkLM_ap : mkLM ws M = some (.m M.length, M ++ [.lst ws]) := rfl
@[simp] theorem rng1D_ap {n : Int} : rng1D n M = if n < 2 ^ 62 ∧ -(2 ^ 62) ≤ n then .ok ((List.range n.toNat).map fun (i : Nat) => .int i) M else .bad := rfl
@[simp] theorem datsW_mapc {α : Type} {g : α → PyData} {xs : List α} : datsW (xs.map (W.d ∘ g)) = some (xs.map g) := by rw [← List.map_map, datsW_map]
@[simp] theorem datsW_mapf {α : Type} {g : α → PyData} {xs : List α} : datsW (xs.map fun x => W.d (g x)) = some (xs.map g) := datsW_mapc
theorem lcL_map {α : Type} {i : Nat} {inj g : α → PyData} : ∀ {xs : List α}, (∀ x ∈ xs, f (Γ.set i (some (.d (inj x)))) M = .ok (.d (g x)) M) → lcL (nmG i) yesT f Γ (xs.map inj) M = .ok ((xs.map g).map .d) M
  | [], _ => rfl
  | x :: xs, h => by
    have ih := lcL_map (xs := xs) fun y hy => h y (List.mem_cons_of_mem _ hy)
    rw [List.map_cons]
    simp only [lcL, nmG_ap, yesT_ap, h x List.mem_cons_self, ih]
    rfl
theorem lcL_filter {α : Type} {i : Nat} {inj g : α → PyData} {p : α → Bool} : ∀ {xs : List α}, (∀ x ∈ xs, t (Γ.set i (some (.d (inj x)))) M = .ok (p x) M) → (∀ x ∈ xs, p x = true → f (Γ.set i (some (.d (inj x)))) M = .ok (.d (g x)) M) → lcL (nmG i) t f Γ (xs.map inj) M = .ok (((xs.filter p).map g).map .d) M
  | [], _, _ => rfl
  | x :: xs, h1, h2 => by
    have ih := lcL_filter (xs := xs) (fun y hy => h1 y (List.mem_cons_of_mem _ hy)) fun y hy => h2 y (List.mem_cons_of_mem _ hy)
    rw [List.map_cons]
    cases hp : p x with
    | true =>
      simp only [lcL, nmG_ap, h1 x List.mem_cons_self, h2 x List.mem_cons_self hp, ih, hp, List.filter_cons_of_pos]
      rfl
    | false =>
      simp only [lcL, nmG_ap, h1 x List.mem_cons_self, ih, hp]
      rw [List.filter_cons_of_neg (by simp [hp])]
theorem lcL_draw {α : Type} {i : Nat} {g : α → PyData} {Q : PyData → α → Prop} : ∀ {ds : List PyData}, (∀ d ∈ ds, ∀ b : Bag, b.Good → ∃ (a : α) (b' : Bag), b'.Good ∧ Q d a ∧ ∀ R : MS, f (Γ.set i (some (.d d))) (bagO b :: R) = .ok (.d (g a)) (bagO b' :: R)) →
    ∀ {b : Bag}, b.Good → ∃ (as : List α) (b' : Bag), b'.Good ∧ Paired Q ds as ∧ ∀ R : MS, lcL (nmG i) yesT f Γ ds (bagO b :: R) = .ok ((as.map g).map .d) (bagO b' :: R)
  | [], _, b, gb => ⟨[], b, gb, .nil, fun _ => rfl⟩
  | d :: ds, h, b, gb => by
    obtain ⟨a, b1, g1, q, e⟩ := h d List.mem_cons_self b gb
    obtain ⟨as, b2, g2, qs, e2⟩ := lcL_draw (ds := ds) (fun y hy => h y (List.mem_cons_of_mem _ hy)) g1
    refine ⟨a :: as, b2, g2, .cons q qs, fun R => ?_⟩
    simp only [lcL, nmG_ap, yesT_ap, e, e2]
    rfl
end
theorem names_ok {b : Bag} (gb : b.Good) {many : Int} (h1 : 1 ≤ many) (h2 : many ≤ 9) : ∃ (ss : List Str) (b' : Bag), b'.Good ∧ ss.Nodup ∧ (ss.length : Int) = many ∧ (∀ s ∈ ss, s ∈ menu) ∧ ∀ R : MS, F_names [.m 0, .d (.int many)] (bagO b :: R) = .ok (.d (.tuple (ss.map .str))) (bagO b' :: R) := by
  obtain ⟨es, b', g', hp, e⟩ := mixed_ok gb (ds := menu.map .str) (.inl rfl) (by decide)
  obtain ⟨ss, rfl, ps⟩ := perm_strs hp
  obtain ⟨q1, q2, q3⟩ := names_end ps h1 h2
  refine ⟨sortS (ss.take many.toNat), b', g', q1, q2, q3, fun R => ?_⟩
  have e2 := e R
  simp [menu] at e2
  have hl : (ss.take many.toNat).length < 64 := by rw [List.length_take]; omega
  have hc : cutD (ss.map PyData.str) none (some many) = (ss.take many.toNat).map PyData.str := by rw [cutD_map, cut_take _ (by omega)]
  simp only [List.length_take] at hl
  simp [F_names, defF_ap, g_names, e2, hc, -List.map_take, hl, finD_bag0]
theorem sort_ok {b : Bag} (gb : b.Good) (nm : Str) : ∃ (r : HRow) (b' : Bag), b'.Good ∧ (RowOk r ∧ r.name = nm) ∧ ∀ R : MS, F_sort [.m 0, .d (.str nm)] (bagO b :: R) = .ok (.d (rowD r)) (bagO b' :: R) := by
  obtain ⟨way, b1, g1, hw0, hw1, e1⟩ := take_ok gb (n := 7) (by decide) (by decide)
  obtain ⟨few', b2, g2, hf, e2⟩ := one_ok g1 (ds := [0, 1, 2, 1, 3].map .int) (.inl rfl) (by decide) (by decide)
  obtain ⟨few, hf, rfl⟩ := mem_ints hf
  have hf : 0 ≤ few ∧ few ≤ 3 := by simp at hf; omega
  simp only [List.map_cons, List.map_nil] at e2
  by_cases w1 : way < 3
  · refine ⟨⟨nm, 1, some 1⟩, b2, g2, ⟨rowOk (by decide) (by decide) (by simp), rfl⟩, fun R => ?_⟩
    simp [F_sort, defF_ap, g_sort, e1, e2, w1, finD_bag0, rowD, optD]
  by_cases w2 : way = 3
  · refine ⟨⟨nm, few, some few⟩, b2, g2, ⟨rowOk hf.1 hf.2 (by simp; omega), rfl⟩, fun R => ?_⟩
    simp [F_sort, defF_ap, g_sort, e1, e2, w2, finD_bag0, rowD, optD]
  by_cases w3 : way = 4
  · obtain ⟨k, b3, g3, k0, k1, e3⟩ := take_ok g2 (n := 3) (by decide) (by decide)
    refine ⟨⟨nm, 0, some (1 + k)⟩, b3, g3, ⟨rowOk (by decide) (by decide) (by simp; omega), rfl⟩, fun R => ?_⟩
    simp [F_sort, defF_ap, g_sort, e1, e2, e3, w3, finD_bag0, rowD, optD]
  by_cases w4 : way = 5
  · obtain ⟨k', b3, g3, hk, e3⟩ := one_ok g2 (ds := [1, 2, 0, 6].map .int) (.inl rfl) (by decide) (by decide)
    obtain ⟨k, hk, rfl⟩ := mem_ints hk
    have hk : 0 ≤ k ∧ k ≤ 6 := by simp at hk; omega
    simp only [List.map_cons, List.map_nil] at e3
    refine ⟨⟨nm, few, some (few + k)⟩, b3, g3, ⟨rowOk hf.1 hf.2 (by simp; omega), rfl⟩, fun R => ?_⟩
    simp [F_sort, defF_ap, g_sort, e1, e2, e3, w4, finD_bag0, rowD, optD]
  · refine ⟨⟨nm, few, none⟩, b2, g2, ⟨rowOk hf.1 hf.2 (by simp), rfl⟩, fun R => ?_⟩
    simp [F_sort, defF_ap, g_sort, e1, e2, w1, w2, w3, w4, finD_bag0, rowD, optD]
theorem rows_of : ∀ {ss : List Str} {h : List HRow}, Paired (fun d r => RowOk r ∧ PyData.str r.name = d) (ss.map .str) h → h.map (·.name) = ss ∧ ∀ r ∈ h, RowOk r
  | [], _, p => by cases p; exact ⟨rfl, by simp⟩
  | s :: ss, _, p => by
    cases p with
    | cons q qs =>
      obtain ⟨i1, i2⟩ := rows_of qs
      refine ⟨by rw [List.map_cons, i1]; injection q.2 with z; rw [z], fun r hr => ?_⟩
      rcases List.mem_cons.mp hr with rfl | hr
      · exact q.1
      · exact i2 r hr
theorem house_ok {b : Bag} (gb : b.Good) {most : Int} (h1 : 1 ≤ most) (h2 : most ≤ 9) : ∃ (h : List HRow) (b' : Bag), b'.Good ∧ HouseOk h ∧ ∀ R : MS, F_house [.m 0, .d (.int most)] (bagO b :: R) = .ok (.d (houseD h)) (bagO b' :: R) := by
  obtain ⟨k, b1, g1, k0, k1, e1⟩ := take_ok gb (n := most) (by omega) (by omega)
  obtain ⟨ss, b2, g2, nd, hl, hm, e2⟩ := names_ok g1 (many := 1 + k) (by omega) (by omega)
  obtain ⟨h, b3, g3, p, e3⟩ := lcL_draw (i := 2) (f := e_house_1) (Γ := [some (.m 0), some (.d (.int most)), none]) (g := rowD) (Q := fun d r => RowOk r ∧ PyData.str r.name = d) (ds := ss.map .str) (fun d hd b gb => by
    obtain ⟨s, _, rfl⟩ := List.mem_map.mp hd
    obtain ⟨r, b', g', q, e⟩ := sort_ok gb s
    exact ⟨r, b', g', ⟨q.1, by rw [q.2]⟩, fun R => by simp [e_house_1_ap, e]⟩) g2
  obtain ⟨q1, q2⟩ := rows_of p
  have hlen : h.length = ss.length := by rw [← q1, List.length_map]
  refine ⟨h, b3, g3, ⟨fun z => by subst z; simp at hlen; omega, by omega, by rw [q1]; exact nd, fun r hr => hm _ (by rw [← q1]; exact List.mem_map.mpr ⟨r, hr, rfl⟩), q2⟩, fun R => ?_⟩
  have e4 := e3 R
  have hl2 : ss.length < 16777216 := by omega
  simp [F_house, defF_ap, g_house, e1, e2, e4, hl2, finD_bag0, houseD]
theorem numbers_ok {b : Bag} (gb : b.Good) : ∃ (pool : List Int) (b' : Bag), b'.Good ∧ PoolOk pool ∧ ∀ R : MS, F_numbers [.m 0] (bagO b :: R) = .ok (.d (.list (pool.map .int))) (bagO b' :: R) := by
  obtain ⟨lo', b1, g1, hlo, e1⟩ := one_ok gb (ds := [0, -2, 5, 0, 1 - 10 ^ 30].map .int) (.inl rfl) (by decide) (by decide)
  obtain ⟨lo, hlo, rfl⟩ := mem_ints hlo
  obtain ⟨st', b2, g2, hst, e2⟩ := one_ok g1 (ds := [1, 2, 1, 3, 10 ^ 29].map .int) (.inl rfl) (by decide) (by decide)
  obtain ⟨st, hst, rfl⟩ := mem_ints hst
  obtain ⟨k, b3, g3, k0, k1, e3⟩ := take_ok g2 (n := 7) (by decide) (by decide)
  have hlo : 1 - 10 ^ 30 ≤ lo ∧ lo ≤ 5 := by simp at hlo; omega
  have hst : 0 ≤ st ∧ st ≤ 10 ^ 29 := by simp at hst; omega
  simp at e1 e2
  refine ⟨(List.range (1 + k).toNat).map fun (i : Nat) => lo + st * i, b3, g3, ⟨?_, by simp; omega, fun n hn => ?_⟩, fun R => ?_⟩
  · intro z
    have := congrArg List.length z
    simp at this
    omega
  · obtain ⟨i, hi, rfl⟩ := List.mem_map.mp hn
    have hi : i < 8 := by have := List.mem_range.mp hi; omega
    have h0 : 0 ≤ st * (i : Int) := Int.mul_nonneg hst.1 (by omega)
    have h1 : st * (i : Int) ≤ 10 ^ 29 * 8 := Int.mul_le_mul hst.2 (by omega) (by omega) (by decide)
    unfold numB
    omega
  · have e4 := lcL_map (i := 3) (f := e_numbers_1) (Γ := [some (.m 0), some (.d (.int lo)), some (.d (.int st)), none]) (M := bagO b3 :: R) (inj := fun (i : Nat) => .int i) (g := fun (i : Nat) => .int (lo + st * i)) (xs := List.range (1 + k).toNat) (fun i hi => by
      have hi : i < 8 := by have := List.mem_range.mp hi; omega
      have h1 : -18446744073709551616 < (i : Int) := by omega
      have h2 : (i : Int) < 18446744073709551616 := by omega
      simp [e_numbers_1_ap, h1, h2])
    have h1 : 1 + k < 4611686018427387904 := by omega
    have h2 : -4611686018427387904 ≤ 1 + k := by omega
    have h3 : (1 + k).toNat < 16777216 := by omega
    simp [F_numbers, defF_ap, g_numbers, e1, e2, e3, e4, h1, h2, h3, finD_bag0]
end Z

/-! P4: tables, deeds, scripts as drawn. -/
namespace Z
open PySem PySem.Spec PyProof.Rows L2
theorem size_ok {b : Bag} (gb : b.Good) {r : HRow} (ok : RowOk r) {more : Int} (h0 : 0 ≤ more) (h1 : more ≤ 9) : ∃ (n : Int) (b' : Bag), b'.Good ∧ 0 ≤ n ∧ n ≤ 40 ∧ ∀ R : MS, F_size [.m 0, .d (rowD r), .d (.int more)] (bagO b :: R) = .ok (.d (.int n)) (bagO b' :: R) := by
  obtain ⟨nm, l, m⟩ := r
  have l0 := ok.l0
  have l1 := ok.l1
  simp only at l0 l1
  cases m with
  | none =>
    obtain ⟨k, b1, g1, k0, k1, e1⟩ := take_ok gb (n := l + more - l + 1) (by omega) (by omega)
    refine ⟨l + k, b1, g1, by omega, by omega, fun R => ?_⟩
    simp [F_size, defF_ap, g_size, rowD, optD, e1, finD_bag0]
  | some x =>
    have hx := ok.m x rfl
    simp only at hx
    by_cases hm : l + more < x
    · obtain ⟨k, b1, g1, k0, k1, e1⟩ := take_ok gb (n := l + more - l + 1) (by omega) (by omega)
      refine ⟨l + k, b1, g1, by omega, by omega, fun R => ?_⟩
      simp [F_size, defF_ap, g_size, rowD, optD, hm, e1, finD_bag0]
    · obtain ⟨k, b1, g1, k0, k1, e1⟩ := take_ok gb (n := x - l + 1) (by omega) (by omega)
      refine ⟨l + k, b1, g1, by omega, by omega, fun R => ?_⟩
      simp [F_size, defF_ap, g_size, rowD, optD, hm, e1, finD_bag0]
theorem ints_of {ds : List PyData} {P : Int → Prop} : ∀ {as : List Int}, Paired (fun (d : PyData) (a : Int) => P a) ds as → as.length = ds.length ∧ ∀ a ∈ as, P a
  | _, p => by
    induction p with
    | nil => exact ⟨rfl, by simp⟩
    | cons q qs ih =>
      refine ⟨by rw [List.length_cons, List.length_cons, ih.1], fun a ha => ?_⟩
      rcases List.mem_cons.mp ha with rfl | ha
      · exact q
      · exact ih.2 a ha
theorem lcL_drawR {α : Type} {f : EF} {Γ : GS} {R : MS} {i : Nat} {g : α → PyData} {Q : PyData → α → Prop} : ∀ {ds : List PyData}, (∀ d ∈ ds, ∀ b : Bag, b.Good → ∃ (a : α) (b' : Bag), b'.Good ∧ Q d a ∧ f (Γ.set i (some (.d d))) (bagO b :: R) = .ok (.d (g a)) (bagO b' :: R)) →
    ∀ {b : Bag}, b.Good → ∃ (as : List α) (b' : Bag), b'.Good ∧ Paired Q ds as ∧ lcL (nmG i) yesT f Γ ds (bagO b :: R) = .ok ((as.map g).map .d) (bagO b' :: R)
  | [], _, b, gb => ⟨[], b, gb, .nil, rfl⟩
  | d :: ds, h, b, gb => by
    obtain ⟨a, b1, g1, q, e⟩ := h d List.mem_cons_self b gb
    obtain ⟨as, b2, g2, qs, e2⟩ := lcL_drawR (ds := ds) (fun y hy => h y (List.mem_cons_of_mem _ hy)) g1
    refine ⟨a :: as, b2, g2, .cons q qs, ?_⟩
    simp only [lcL, nmG_ap, yesT_ap, e, e2]
    rfl
/-- rows drawn for a sort -/
theorem rows_ok {b : Bag} (gb : b.Good) {pool : List Int} (hp : 0 < pool.length) (hp2 : pool.length < 1000) {o1 o3 o4 o5 o6 : Option W} {R : MS} (ds : List PyData) :
    ∃ (ns : List Int) (b' : Bag), b'.Good ∧ ns.length = ds.length ∧ (∀ n ∈ ns, n ∈ pool) ∧ lcL (nmG 6) yesT e_table_1 [some (.m 0), o1, some (.d (.list (pool.map .int))), o3, o4, o5, o6] ds (bagO b :: R) = .ok ((ns.map .int).map .d) (bagO b' :: R) := by
  obtain ⟨ns, b', g', p, e⟩ := lcL_drawR (i := 6) (f := e_table_1) (Γ := [some (.m 0), o1, some (.d (.list (pool.map .int))), o3, o4, o5, o6]) (R := R) (g := PyData.int) (Q := fun _ n => n ∈ pool) (ds := ds) (fun d hd b gb => by
    obtain ⟨n', b1, g1, hn, e1⟩ := one_ok gb (ds := pool.map .int) (.inl rfl) (by simpa using hp) (by simpa using hp2)
    obtain ⟨n, hn2, rfl⟩ := mem_ints hn
    exact ⟨n, b1, g1, hn2, by simp [e_table_1_ap, e1]⟩) gb
  obtain ⟨q1, q2⟩ := ints_of p
  exact ⟨ns, b', g', q1, q2, e⟩
theorem any_new {h hs : List HRow} {t : Tab} {i : Nat} {r : HRow} (ok : HouseOk h) (ph : hs.Perm h) (hr : hs[i]? = some r) (ht : t.map (·.1) = (hs.take i).map (·.name)) :
    putW (t.map fun p => ((Sum.inr p.1 : Key), W.d (.tuple (p.2.map .int)))) (Sum.inr r.name) w = (t.map fun p => ((Sum.inr p.1 : Key), W.d (.tuple (p.2.map .int)))) ++ [(Sum.inr r.name, w)] := by
  unfold putW
  rw [tab_new ok ph hr ht]
  rfl
abbrev tabK (t : Tab) : List (Key × W) := t.map fun p => ((Sum.inr p.1 : Key), W.d (.tuple (p.2.map .int)))
theorem table_loop {h hs : List HRow} (ok : HouseOk h) (ph : hs.Perm h) {pool : List Int} (hp : 0 < pool.length) (hp2 : pool.length < 1000) {more : Int} (m0 : 0 ≤ more) (m1 : more ≤ 9) {wh : W} {R : MS} : ∀ (n i : Nat), i + n = hs.length → ∀ (b : Bag), b.Good → ∀ (t : Tab), t.map (·.1) = (hs.take i).map (·.name) → (∀ p ∈ t, p.2.Pairwise (· ≤ ·) ∧ p.2.length ≤ 40 ∧ ∀ n ∈ p.2, n ∈ pool) → ∀ o : Option W,
    ∃ (t' : Tab) (b' : Bag) (o' : Option W), b'.Good ∧ t'.map (·.1) = hs.map (·.name) ∧ (∀ p ∈ t', p.2.Pairwise (· ≤ ·) ∧ p.2.length ≤ 40 ∧ ∀ n ∈ p.2, n ∈ pool) ∧
    forL (nmG 5) b_table_1 ((hs.drop i).map rowD) [some (.m 0), some wh, some (.d (.list (pool.map .int))), some (.d (.int more)), some (.m (R.length + 1)), o, none] (bagO b :: (R ++ [.dic (tabK t)])) =
      .nx [some (.m 0), some wh, some (.d (.list (pool.map .int))), some (.d (.int more)), some (.m (R.length + 1)), o', none] (bagO b' :: (R ++ [.dic (tabK t')]))
  | 0, i, hi, b, gb, t, ht, ho, o => by
    have : hs.drop i = [] := List.drop_eq_nil_of_le (by omega)
    refine ⟨t, b, o, gb, ?_, ho, by rw [this]; rfl⟩
    rw [ht, List.take_of_length_le (by omega)]
  | n + 1, i, hi, b, gb, t, ht, ho, o => by
    have hlt : i < hs.length := by omega
    obtain ⟨r, hr⟩ : ∃ r, hs[i]? = some r := ⟨_, List.getElem?_eq_getElem hlt⟩
    have hd : hs.drop i = r :: hs.drop (i + 1) := by
      rw [List.drop_eq_getElem_cons hlt]
      congr 1
      rw [List.getElem?_eq_getElem hlt] at hr
      exact Option.some.inj hr
    have rok : RowOk r := ok.row r (ph.mem_iff.mp (List.mem_of_getElem? hr))
    obtain ⟨k, b1, g1, k0, k1, e1⟩ := size_ok gb rok m0 m1
    obtain ⟨ns, b2, g2, q1, q2, e2⟩ := rows_ok g1 hp hp2 (o1 := some wh) (o3 := some (.d (.int more))) (o4 := some (.m (R.length + 1))) (o5 := some (.d (rowD r))) (o6 := none) (R := R ++ [.dic (tabK t)]) ((List.range k.toNat).map fun (i : Nat) => .int i)
    have hns : ns.length ≤ 40 := by rw [q1, List.length_map, List.length_range]; omega
    have pn := any_new (w := W.d (.tuple ((sortI ns).map .int))) ok ph hr ht
    obtain ⟨t', b', o', g', u1, u2, e3⟩ := table_loop ok ph hp hp2 m0 m1 (wh := wh) (R := R) n (i + 1) (by omega) b2 g2 (t ++ [(r.name, sortI ns)]) (by rw [List.map_append, ht, take_next hr, List.map_append]; rfl) (fun p hp => by
      rcases List.mem_append.mp hp with hp | hp
      · exact ho p hp
      · rw [List.mem_singleton.mp hp]
        exact ⟨sortI_pw _, by rw [(sortI_perm ns).length_eq]; exact hns, fun n hn => q2 n ((sortI_perm ns).mem_iff.mp hn)⟩) (some (.d (rowD r)))
    refine ⟨t', b', o', g', u1, u2, ?_⟩
    have hk1 : k < 4611686018427387904 := by omega
    have hk2 : -4611686018427387904 ≤ k := by omega
    have hk3 : k.toNat < 16777216 := by omega
    have ht2 : t.length < 16777216 := by
      have e : t.length = (hs.take i).length := by rw [← List.length_map (f := fun p : Str × List Int => p.1), ht, List.length_map]
      have := ok.n1
      have := ph.length_eq
      rw [e, List.length_take]; omega
    have e4 : ixV (.d (rowD r)) (.d (.int 0)) (bagO b2 :: (R ++ [.dic (tabK t)])) = some (.d (.str r.name), bagO b2 :: (R ++ [.dic (tabK t)])) := rfl
    simp only [tabK, List.map_append, List.map_cons, List.map_nil] at e3
    rw [hd]
    simp [forL, b_table_1_ap, e1, hk1, hk2, hk3, e2, e4, ht2, pn]
    rw [← List.map_drop]
    exact e3
theorem table_ok {b : Bag} (gb : b.Good) {h : List HRow} (ok : HouseOk h) {pool : List Int} (hp : 0 < pool.length) (hp2 : pool.length < 1000) {more : Int} (m0 : 0 ≤ more) (m1 : more ≤ 9) (R : MS) : ∃ (t : Tab) (b' : Bag), b'.Good ∧ TabOk h pool t ∧ F_table [.m 0, .d (houseD h), .d (.list (pool.map .int)), .d (.int more)] (bagO b :: R) = .ok (.d (tabD t)) (bagO b' :: R) := by
  have hl : h.length ≤ 9 := ok.n1
  obtain ⟨es, b1, g1, hp1, e1⟩ := mixed_ok gb (ds := h.map rowD) (w := .d (houseD h)) (.inr rfl) (by rw [List.length_map]; omega)
  obtain ⟨hs, rfl, ph⟩ := perm_rows hp1
  obtain ⟨t, b2, o, g2, q1, q2, e2⟩ := table_loop ok ph hp hp2 m0 m1 (wh := .d (houseD h)) (R := R) hs.length 0 (by simp) b1 g1 [] rfl (by simp) none
  refine ⟨t, b2, g2, ⟨by rw [q1]; exact ph.map _, q2⟩, ?_⟩
  have e3 := finD_bagK (b := b) (b' := b2) (R := R) (N := [.dic (tabK t)]) (j := 0) (ks := t.map fun p => ((Sum.inr p.1 : Key), .tuple (p.2.map .int))) (by simp [tabK])
  simp at e2 e3
  simp [F_table, defF_ap, g_table, e1, e2, e3, tabD]
theorem deed_ok {b : Bag} (gb : b.Good) {h : List HRow} (ok : HouseOk h) {pool : List Int} (hp : 0 < pool.length) (hp2 : pool.length < 1000) {most : Int} (m0 : 1 ≤ most) (m1 : most ≤ 900) : ∃ (d : Deed) (b' : Bag), b'.Good ∧ DeedOk (h.map (·.name)) pool d ∧ ∀ R : MS, F_deed [.m 0, .d (houseD h), .d (.list (pool.map .int)), .d (.int most)] (bagO b :: R) = .ok (.d (deedD d)) (bagO b' :: R) := by
  have hl : h.length ≤ 9 := ok.n1
  have hl2 : h.length < 16777216 := by omega
  have e0 : ∀ M : MS, lcL (nmG 5) yesT e_deed_1 [some (.m 0), some (.d (houseD h)), some (.d (.list (pool.map .int))), some (.d (.int most)), none, none, none, none, none] (h.map rowD) M = .ok ((h.map fun r => PyData.str r.name).map .d) M := fun M => lcL_map (inj := rowD) (g := fun r => PyData.str r.name) fun r hr => rfl
  have e3 : h.map (fun r => PyData.str r.name) = (h.map (·.name)).map PyData.str := by rw [List.map_map]; rfl
  obtain ⟨es, b1, g1, hp1, e1⟩ := mixed_ok gb (ds := h.map fun r => PyData.str r.name) (.inl rfl) (by rw [List.length_map]; omega)
  rw [e3] at hp1
  obtain ⟨ss, rfl, ps⟩ := perm_strs hp1
  have nds : ss.Nodup := ps.nodup_iff.mpr ok.nd
  have len : ss.length = h.length := by rw [ps.length_eq, List.length_map]
  have hc : cutD (ss.map PyData.str) none (some 2) = (ss.take 2).map PyData.str := by rw [cutD_map, cut_take _ (by decide)]; rfl
  obtain ⟨k, b2, g2, k0, k1, e2⟩ := take_ok g1 (n := most) (by omega) (by omega)
  have n0 := ok.n0
  have mem : ∀ s ∈ ss, s ∈ h.map (·.name) := fun s hs => ps.mem_iff.mp hs
  have es1 : ∀ (M : MS), seqI2 (.ok (.d (houseD h)) M) = .ok (h.map rowD) M := fun _ => rfl
  have keep : ∀ (b : Bag), b.Good → ∃ (q : Int) (b' : Bag), b'.Good ∧ (0 ≤ q ∧ q ≤ 1000) ∧ ∀ R : MS, F_one [.m 0, .d (.list [.int (1 + k), .int (1 + k - 1)])] (bagO b :: R) = .ok (.d (.int q)) (bagO b' :: R) := fun b gb => by
    obtain ⟨q', b', g', hq, e⟩ := one_ok gb (ds := [.int (1 + k), .int (1 + k - 1)]) (.inl rfl) (by simp) (by simp)
    simp only [List.mem_cons, List.not_mem_nil, or_false] at hq
    rcases hq with rfl | rfl
    · exact ⟨_, b', g', by omega, e⟩
    · exact ⟨_, b', g', by omega, e⟩
  have come : ∀ (b : Bag), b.Good → ∃ (q : Int) (b' : Bag), b'.Good ∧ q ∈ pool ∧ ∀ R : MS, F_one [.m 0, .d (.list (pool.map .int))] (bagO b :: R) = .ok (.d (.int q)) (bagO b' :: R) := fun b gb => by
    obtain ⟨n', b1, g1, hn, e1⟩ := one_ok gb (ds := pool.map .int) (.inl rfl) (by simpa using hp) (by simpa using hp2)
    obtain ⟨n, hn2, rfl⟩ := mem_ints hn
    exact ⟨n, b1, g1, hn2, e1⟩
  match ss, len, nds, mem, hc, e1 with
  | [], len, _, _, _, _ => exact absurd (List.length_eq_zero_iff.mp len.symm) n0
  | [x], len, nds, mem, hc, e1 =>
    have mx : x ∈ h.map (·.name) := mem x List.mem_cons_self
    obtain ⟨way, b3, g3, w0, w1, e4⟩ := take_ok g2 (n := 3) (by decide) (by decide)
    simp at hc e1
    by_cases h0 : way = 0
    · obtain ⟨q, b4, g4, hq, e5⟩ := come b3 g3
      exact ⟨.come x q, b4, g4, ⟨mx, hq⟩, fun R => by simp [F_deed, defF_ap, g_deed, e0, es1, e1, e2, e4, e5, hc, hl2, h0, finD_bag0, deedD]⟩
    by_cases h1 : way = 1
    · exact ⟨.go x (1 + k), b3, g3, ⟨mx, by omega, by omega⟩, fun R => by simp [F_deed, defF_ap, g_deed, e0, es1, e1, e2, e4, hc, hl2, h1, finD_bag0, deedD]⟩
    have h2 : way = 2 := by omega
    obtain ⟨q, b4, g4, hq, e5⟩ := keep b3 g3
    exact ⟨.keep x q, b4, g4, ⟨mx, hq⟩, fun R => by simp [F_deed, defF_ap, g_deed, e0, es1, e1, e2, e4, e5, hc, hl2, h2, finD_bag0, deedD]⟩
  | x :: y :: rest, len, nds, mem, hc, e1 =>
    have mx : x ∈ h.map (·.name) := mem x List.mem_cons_self
    have my : y ∈ h.map (·.name) := mem y (List.mem_cons_of_mem _ List.mem_cons_self)
    have ne : x ≠ y := fun z => by subst z; simp at nds
    obtain ⟨way, b3, g3, w0, w1, e4⟩ := take_ok g2 (n := 5) (by decide) (by decide)
    simp at hc e1
    by_cases h0 : way = 0
    · obtain ⟨q, b4, g4, hq, e5⟩ := come b3 g3
      exact ⟨.come x q, b4, g4, ⟨mx, hq⟩, fun R => by simp [F_deed, defF_ap, g_deed, e0, es1, e1, e2, e4, e5, hc, hl2, h0, finD_bag0, deedD]⟩
    by_cases h1 : way = 1
    · exact ⟨.go x (1 + k), b3, g3, ⟨mx, by omega, by omega⟩, fun R => by simp [F_deed, defF_ap, g_deed, e0, es1, e1, e2, e4, hc, hl2, h1, finD_bag0, deedD]⟩
    by_cases h2 : way = 2
    · obtain ⟨q, b4, g4, hq, e5⟩ := keep b3 g3
      exact ⟨.keep x q, b4, g4, ⟨mx, hq⟩, fun R => by simp [F_deed, defF_ap, g_deed, e0, es1, e1, e2, e4, e5, hc, hl2, h2, finD_bag0, deedD]⟩
    by_cases h3 : way = 3
    · exact ⟨.move x (1 + k) y, b3, g3, ⟨mx, by omega, by omega, my, ne⟩, fun R => by simp [F_deed, defF_ap, g_deed, e0, es1, e1, e2, e4, hc, hl2, h3, finD_bag0, deedD]⟩
    · exact ⟨.merge x y, b3, g3, ⟨mx, my, ne⟩, fun R => by simp [F_deed, defF_ap, g_deed, e0, es1, e1, e2, e4, hc, hl2, h0, h1, h2, h3, finD_bag0, deedD]⟩
theorem deeds_of {P : Deed → Prop} : ∀ {ds : List PyData} {as : List Deed}, Paired (fun (d : PyData) (a : Deed) => P a) ds as → as.length = ds.length ∧ ∀ a ∈ as, P a
  | _, _, p => by
    induction p with
    | nil => exact ⟨rfl, by simp⟩
    | cons q qs ih =>
      refine ⟨by rw [List.length_cons, List.length_cons, ih.1], fun a ha => ?_⟩
      rcases List.mem_cons.mp ha with rfl | ha
      · exact q
      · exact ih.2 a ha
theorem script_ok {b : Bag} (gb : b.Good) {h : List HRow} (ok : HouseOk h) {pool : List Int} (hp : 0 < pool.length) (hp2 : pool.length < 1000) {many most : Int} (a0 : 0 ≤ many) (a1 : many ≤ 40) (m0 : 1 ≤ most) (m1 : most ≤ 900) (R : MS) : ∃ (ds : List Deed) (b' : Bag), b'.Good ∧ (ds.length : Int) ≤ many ∧ (∀ d ∈ ds, DeedOk (h.map (·.name)) pool d) ∧ F_script [.m 0, .d (houseD h), .d (.list (pool.map .int)), .d (.int many), .d (.int most)] (bagO b :: R) = .ok (.d (scriptD ds)) (bagO b' :: R) := by
  obtain ⟨k, b1, g1, k0, k1, e1⟩ := take_ok gb (n := many + 1) (by omega) (by omega)
  obtain ⟨ds, b2, g2, p, e2⟩ := lcL_drawR (i := 5) (f := e_script_1) (Γ := [some (.m 0), some (.d (houseD h)), some (.d (.list (pool.map .int))), some (.d (.int many)), some (.d (.int most)), none]) (R := R) (g := deedD) (Q := fun _ d => DeedOk (h.map (·.name)) pool d) (ds := (List.range k.toNat).map fun (i : Nat) => .int i) (fun d hd b gb => by
    obtain ⟨x, b', g', q, e⟩ := deed_ok gb ok hp hp2 m0 m1
    exact ⟨x, b', g', q, by simp [e_script_1_ap, e]⟩) g1
  obtain ⟨q1, q2⟩ := deeds_of p
  rw [List.length_map, List.length_range] at q1
  have h1 : k < 4611686018427387904 := by omega
  have h2 : -4611686018427387904 ≤ k := by omega
  have h3 : k.toNat < 16777216 := by omega
  exact ⟨ds, b2, g2, by omega, q2, by simp [F_script, defF_ap, g_script, e1, e2, h1, h2, h3, finD_bag0, scriptD]⟩
end Z

/-! P5: what deeds do to a table. -/
namespace Z
open PySem PySem.Spec PyProof.Rows L2
theorem get_pre {M : MS} {j : Nat} {x : MO} (h : M[j]? = some x) (N : MS) : (M ++ N)[j]? = some x := by
  rw [List.getElem?_append_left (List.getElem?_eq_some_iff.mp h).1]; exact h
theorem rdO_rows {v : List Int} : rdO (some (.lst (rowsW v))) = some (.list (v.map .int)) := by
  show (datsW (rowsW v)).map PyData.list = _
  unfold rowsW
  rw [datsW_map]; rfl
/-- what is known of a table whose lists are cells -/
structure Tk (A M : MS) (t : Tab) (f : Str → Nat) (j : Nat) : Prop extends TabM A M t f j where
  sh : ∀ p ∈ t, p.2.length < 4000000
  ln : t.length < 100
theorem deed_ks {d : Deed} {names pool} (ok : DeedOk names pool d) : (∀ a k, d = .keep a k → 0 ≤ k) ∧ (∀ a k, d = .go a k → 1 ≤ k) ∧ (∀ a k b, d = .move a k b → 1 ≤ k) := by
  refine ⟨fun a k e => ?_, fun a k e => ?_, fun a k b e => ?_⟩ <;> subst e
  · exact ok.2.1
  · exact ok.2.1
  · exact ok.2.1
theorem do_deed_ok {A M : MS} {t : Tab} {f : Str → Nat} {j : Nat} {d : Deed} (T : TabM A M t f j) (hd : InN (t.map (·.1)) d) (sh : ∀ p ∈ t, p.2.length < 4000000) (ln : t.length < 100) (hk : (∀ a k, d = .keep a k → 0 ≤ k) ∧ (∀ a k, d = .go a k → 1 ≤ k) ∧ (∀ a k b, d = .move a k b → 1 ≤ k)) :
    ∃ M' f', F_p_do_deed [.m j, .d (deedD d)] M = .ok (.d .none) M' ∧ TabM A M' (stepT t d) f' j := by
  have hl : (encF (t.map (·.1)) f).length < 16777216 := by rw [encF_len, List.length_map]; omega
  have rows : ∀ a ∈ t.map (·.1), (getT t a).length < 4000000 := fun a ha => getT_short ha sh
  cases d with
  | come a n =>
    have ha : a ∈ t.map (·.1) := hd
    refine ⟨_, _, ?_, T.put ha (sortI (getT t a ++ [n]))⟩
    have h1 := rows a ha
    have h3 : (getT t a).length + 1 ≤ 16777216 := by omega
    have e1 : (getT t a).map PyData.int ++ [PyData.int n] = (getT t a ++ [n]).map PyData.int := by simp
    simp [F_p_do_deed, defF_ap, g_p_do_deed, deedD, T.dic, look_encF, ha, (T.cell a ha).2, e1, h3, get_pre T.dic, hl, finI, -List.map_append]
  | merge a b =>
    have ha : a ∈ t.map (·.1) := hd.1
    have hb : b ∈ t.map (·.1) := hd.2.1
    have h1 := rows a ha
    have h2 := rows b hb
    have T1 := T.put hb (sortI (getT t b ++ getT t a))
    have T2 := T1.put (setT_mem ha) []
    refine ⟨_, _, ?_, T2⟩
    have h3 : (getT t b).length + (getT t a).length ≤ 16777216 := by omega
    have e1 : (getT t b).map PyData.int ++ (getT t a).map PyData.int = (getT t b ++ getT t a).map PyData.int := by simp
    have hl2 := T1.dic
    have hl3 : (encF (List.map (fun x => x.fst) (setT t b (sortI (getT t b ++ getT t a)))) fun x => if x = b then List.length M else f x).length < 16777216 := by rw [encF_len, List.length_map, setT_len]; omega
    simp [F_p_do_deed, defF_ap, g_p_do_deed, deedD, T.dic, look_encF, ha, hb, (T.cell a ha).2, (T.cell b hb).2, e1, h3, get_pre T.dic, hl, finI, -List.map_append]
    simp [get_pre hl2, hl3, finI]
  | keep a k =>
    have ha : a ∈ t.map (·.1) := hd
    have h1 := rows a ha
    have h0 := hk.1 a k rfl
    refine ⟨_, _, ?_, T.put ha ((getT t a).drop (((getT t a).length : Int) - k).toNat)⟩
    have e1 : cutD ((getT t a).map PyData.int) (some (if 0 < ((getT t a).length : Int) - k then ((getT t a).length : Int) - k else 0)) none = ((getT t a).drop (((getT t a).length : Int) - k).toNat).map .int := by
      split
      · rw [cut_drop _ (by omega), List.map_drop]
      · rw [cut_drop _ (by omega), List.map_drop]; congr 1; omega
    simp only [Int.sub_pos] at e1
    simp [F_p_do_deed, defF_ap, g_p_do_deed, deedD, T.dic, look_encF, ha, (T.cell a ha).2, e1, get_pre T.dic, hl, finI, -List.map_append, rowsW]
  | go a k =>
    have ha : a ∈ t.map (·.1) := hd
    have h1 := rows a ha
    have h0 := hk.2.1 a k rfl
    by_cases c : k ≤ ((getT t a).length : Int)
    · have h4 : (((getT t a).length : Int) - k).toNat < (getT t a).length := by omega
      have h5 : seqIndex? (((getT t a).length : Int) - k) (getT t a).length = some (((getT t a).length : Int) - k).toNat := ix_of (by omega) (by omega)
      have h6 : -9223372036854775808 ≤ ((getT t a).length : Int) - k := by omega
      have h7 : ((getT t a).length : Int) - k < 9223372036854775808 := by omega
      refine ⟨M.set (f a) (.lst (rowsW ((getT t a).eraseIdx (((getT t a).length : Int) - k).toNat))), f, ?_, ?_⟩
      · simp [F_p_do_deed, defF_ap, g_p_do_deed, deedD, T.dic, look_encF, ha, (T.cell a ha).2, c, finI, -List.map_append, popV, h5, h6, h7, h4, rowsW_get, rowsW_erase]
      · have := T.pop ha ((getT t a).eraseIdx (((getT t a).length : Int) - k).toNat)
        simpa [stepT, c] using this
    · refine ⟨M, f, ?_, ?_⟩
      · simp [F_p_do_deed, defF_ap, g_p_do_deed, deedD, T.dic, look_encF, ha, (T.cell a ha).2, c, finI, -List.map_append]
      · simpa [stepT, c] using T
  | move a k b =>
    have ha : a ∈ t.map (·.1) := hd.1
    have hb : b ∈ t.map (·.1) := hd.2.1
    have h1 := rows a ha
    have h2 := rows b hb
    have h0 := hk.2.2 a k b rfl
    by_cases c : k ≤ ((getT t a).length : Int)
    · have h4 : (((getT t a).length : Int) - k).toNat < (getT t a).length := by omega
      have h5 : seqIndex? (((getT t a).length : Int) - k) (getT t a).length = some (((getT t a).length : Int) - k).toNat := ix_of (by omega) (by omega)
      have h6 : -9223372036854775808 ≤ ((getT t a).length : Int) - k := by omega
      have h7 : ((getT t a).length : Int) - k < 9223372036854775808 := by omega
      have T1 := T.pop ha ((getT t a).eraseIdx (((getT t a).length : Int) - k).toNat)
      have hb1 : b ∈ (setT t a ((getT t a).eraseIdx (((getT t a).length : Int) - k).toNat)).map (·.1) := setT_mem hb
      have gb : getT (setT t a ((getT t a).eraseIdx (((getT t a).length : Int) - k).toNat)) b = getT t b := by rw [getT_set _ ha, if_neg (Ne.symm hd.2.2)]
      have T2 := T1.put hb1 (sortI (getT (setT t a ((getT t a).eraseIdx (((getT t a).length : Int) - k).toNat)) b ++ [(getT t a).getD (((getT t a).length : Int) - k).toNat 0]))
      have e2 := (T1.cell b hb1).2
      have e3 := T1.dic
      rw [setT_keys] at e3
      rw [gb] at e2
      have h8 : (getT t b).length + 1 ≤ 16777216 := by omega
      refine ⟨_, _, ?_, by simpa [stepT, c] using T2⟩
      simp [F_p_do_deed, defF_ap, g_p_do_deed, deedD, T.dic, look_encF, ha, hb, (T.cell a ha).2, c, finI, -List.map_append, popV, h5, h6, h7, h4, rowsW_get, rowsW_erase, e2, e3, h8, get_pre e3, hl, setT_keys, gb]
    · refine ⟨M, f, ?_, ?_⟩
      · simp [F_p_do_deed, defF_ap, g_p_do_deed, deedD, T.dic, look_encF, ha, (T.cell a ha).2, c, finI, -List.map_append]
      · simpa [stepT, c] using T
theorem finOk_app {A J : MS} : FinOk A (A ++ J) := fun k mo hk e => .inl (by rwa [List.getElem?_append_left hk] at e)
@[simp] theorem finD_A {A J : MS} {x : PyData} : finD A (.d x) (A ++ J) = .ok (.d x) A := finD_d finOk_app (by simp)
@[simp] theorem finD_A0 {A : MS} {x : PyData} : finD A (.d x) A = .ok (.d x) A := finD_d (finOk_refl A) (by simp)
theorem finD_K {A J : MS} {ks : List (Key × PyData)} : finD A (.m (A.length + J.length)) (A ++ J ++ [.dic (ks.map fun q => (q.1, W.d q.2))]) = .ok (.d (dictK ks)) A :=
  finD_k (by rw [List.append_assoc]; exact finOk_app) (by omega) (by rw [← List.length_append]; exact at_end _ _) (by rw [List.append_assoc]; simp)
theorem finD_L {A J : MS} {es : List PyData} : finD A (.m (A.length + J.length)) (A ++ J ++ [.lst (es.map W.d)]) = .ok (.d (.list es)) A :=
  finD_l (by rw [List.append_assoc]; exact finOk_app) (by omega) (by rw [← List.length_append]; exact at_end _ _) (by rw [List.append_assoc]; simp)
theorem topM_K {A : MS} {M : MS} {k : Nat} {ks : List (Key × PyData)} (h : M[k]? = some (.dic (ks.map fun q => (q.1, W.d q.2)))) : topM A k M = some (.dic (ks.map fun q => (q.1, W.d q.2))) := by
  unfold topM
  rw [h]
  show (optAllK _).map _ = _
  rw [optAllK_dat]; rfl
theorem finM_K {A J : MS} {ks : List (Key × PyData)} : finM A (.m (A.length + J.length)) (A ++ J ++ [.dic (ks.map fun q => (q.1, W.d q.2))]) = .ok (.m A.length) (A ++ [.dic (ks.map fun q => (q.1, W.d q.2))]) := by
  unfold finM
  rw [if_pos (by rw [List.append_assoc]; exact finOk_app)]
  have : ¬ A.length + J.length < A.length := by omega
  simp only [this, if_false]
  rw [topM_K (by rw [← List.length_append]; exact at_end _ _)]
  simp
/-- a dict of new lists is made -/
theorem init_loop {α : Type} {inj : α → PyData} {nm : α → Str} {g : Str → List Int} {tg : TGF} {fk fv : EF} {Γ0 : GS} {A : MS} : ∀ (xs : List α) {ks : List Str} {f : Str → Nat} {M : MS},
    (∀ x ∈ xs, ∀ M, ∃ Γ1, tg (.d (inj x)) Γ0 M = some (Γ1, M) ∧ fk Γ1 M = .ok (.d (.str (nm x))) M ∧ fv Γ1 M = .ok (.m M.length) (M ++ [.lst (rowsW (g (nm x)))])) →
    RowsM A M g ks f → (ks ++ xs.map nm).Nodup → ∃ M' f', dcL tg yesT fk fv Γ0 (xs.map inj) (encF ks f) M = .ok (encF (ks ++ xs.map nm) f') M' ∧ RowsM A M' g (ks ++ xs.map nm) f'
  | [], ks, f, M, _, R, _ => ⟨M, f, by simp [dcL], by simpa using R⟩
  | x :: xs, ks, f, M, h, R, nd => by
    obtain ⟨Γ1, e1, e2, e3⟩ := h x List.mem_cons_self M
    have nx : nm x ∉ ks := fun z => by
      rw [List.map_cons, List.nodup_append] at nd
      exact nd.2.2 _ z _ List.mem_cons_self rfl
    obtain ⟨M', f', e4, R'⟩ := init_loop xs (fun y hy => h y (List.mem_cons_of_mem _ hy)) (R.snoc nx) (by simpa using nd)
    refine ⟨M', f', ?_, by simpa using R'⟩
    rw [List.map_cons, dcL, e1]
    simp only [yesT_ap, e2, e3]
    show (match keyOf (.str (nm x)) with
      | some q => dcL tg yesT fk fv Γ0 (xs.map inj) (putW (encF ks f) q (.m M.length)) _
      | none => .bad) = _
    rw [keyOf_s]
    simp only [put_new nx]
    simpa using e4
/-- rows are read as tuples by name -/
theorem tup_loop {fk fv : EF} {Γ0 : GS} {M : MS} {i : Nat} {g : Str → PyData} : ∀ (xs : List Str) {ks : List (Key × PyData)},
    (∀ x ∈ xs, fk (Γ0.set i (some (.d (.str x)))) M = .ok (.d (.str x)) M ∧ fv (Γ0.set i (some (.d (.str x)))) M = .ok (.d (g x)) M) →
    (∀ x ∈ xs, ∀ q ∈ ks, q.1 ≠ .inr x) → xs.Nodup → dcL (nmG i) yesT fk fv Γ0 (xs.map .str) (ks.map fun q => (q.1, W.d q.2)) M = .ok ((ks ++ xs.map fun x => ((Sum.inr x : Key), g x)).map fun q => (q.1, W.d q.2)) M
  | [], ks, _, _, _ => by simp [dcL]
  | x :: xs, ks, h, hn, nd => by
    obtain ⟨e1, e2⟩ := h x List.mem_cons_self
    have hp : putW (ks.map fun q => (q.1, W.d q.2)) (.inr x) (W.d (g x)) = (ks ++ [((Sum.inr x : Key), g x)]).map fun q => (q.1, W.d q.2) := by
      rw [put_app]
      · simp
      · intro kv hkv
        obtain ⟨q, hq, rfl⟩ := List.mem_map.mp hkv
        exact hn x List.mem_cons_self q hq
    have ih := tup_loop xs (ks := ks ++ [((Sum.inr x : Key), g x)]) (fun y hy => h y (List.mem_cons_of_mem _ hy)) (fun y hy q hq => by
      rcases List.mem_append.mp hq with z | z
      · exact hn y (List.mem_cons_of_mem _ hy) q z
      · rw [List.mem_singleton.mp z]
        intro w
        have : x = y := Sum.inr.inj w
        subst this
        exact (List.nodup_cons.mp nd).1 hy) (List.nodup_cons.mp nd).2
    rw [List.map_cons, dcL]
    simp only [nmG_ap, yesT_ap, e1, e2]
    show (match keyOf (.str x) with
      | some q => dcL (nmG i) yesT fk fv Γ0 (xs.map .str) (putW (ks.map fun (q : Key × PyData) => (q.1, W.d q.2)) q (.d (g x))) _
      | none => .bad) = _
    rw [keyOf_s]
    simp only [hp]
    rw [ih]
    simp
def DeedIn (names : List Str) (d : Deed) : Prop := InN names d ∧ (∀ a k, d = .keep a k → 0 ≤ k) ∧ (∀ a k, d = .go a k → 1 ≤ k) ∧ (∀ a k b, d = .move a k b → 1 ≤ k)
theorem DeedOk.inD {names pool} {d : Deed} (h : DeedOk names pool d) : DeedIn names d := ⟨h.inN, deed_ks h⟩
/-- the table behind a script -/
def sortedT (t : Tab) : Tab := (sortS (t.map (·.1))).map fun a => (a, getT t a)
theorem p_done_loop {A : MS} {j : Nat} {w0 w1 w2 : Option W} : ∀ (ds : List Deed) {M : MS} {t : Tab} {f : Str → Nat} {B : Nat} (o : Option W), TabM A M t f j → (∀ d ∈ ds, DeedIn (t.map (·.1)) d) → (∀ p ∈ t, p.2.length ≤ B) → (B + 1) * 2 ^ ds.length ≤ 4000000 → t.length < 100 →
    ∃ M' f' o', forL (nmG 7) b_p_done_1 (ds.map deedD) [w0, w1, w2, some (.m j), none, none, none, o] M = .nx [w0, w1, w2, some (.m j), none, none, none, o'] M' ∧ TabM A M' (runT t ds) f' j
  | [], M, t, f, B, o, T, _, _, _, _ => ⟨M, f, o, rfl, T⟩
  | d :: ds, M, t, f, B, o, T, hd, hb, hB, hl => by
    rw [List.length_cons, Nat.pow_succ] at hB
    have h0 : 1 ≤ 2 ^ ds.length := Nat.one_le_two_pow
    have hB2 : (2 * B + 1 + 1) * 2 ^ ds.length ≤ 4000000 := by rw [show 2 * B + 1 + 1 = (B + 1) * 2 from by omega, Nat.mul_assoc, Nat.mul_comm 2]; exact hB
    have hB1 : (2 * B + 2) * 1 ≤ (2 * B + 1 + 1) * 2 ^ ds.length := Nat.mul_le_mul_left _ h0
    obtain ⟨M1, f1, e1, T1⟩ := do_deed_ok T (hd d List.mem_cons_self).1 (fun p hp => by have := hb p hp; omega) hl (hd d List.mem_cons_self).2
    obtain ⟨M2, f2, o2, e2, T2⟩ := p_done_loop ds (M := M1) (t := stepT t d) (f := f1) (B := 2 * B + 1) (w0 := w0) (w1 := w1) (w2 := w2) (some (.d (deedD d))) T1 (fun d' h' => by rw [stepT_keys]; exact hd d' (List.mem_cons_of_mem _ h')) (stepT_bd hb d) hB2 (by have := congrArg List.length (stepT_keys t d); simp only [List.length_map] at this; omega)
    exact ⟨M2, f2, o2, by simp [forL, b_p_done_1_ap, e1, e2], T2⟩
@[simp] theorem seqI2_house {h : List HRow} {M : MS} : seqI2 (.ok (.d (houseD h)) M) = .ok (h.map rowD) M := rfl
@[simp] theorem seqI2_script {h : List Deed} {M : MS} : seqI2 (.ok (.d (scriptD h)) M) = .ok (h.map deedD) M := rfl
theorem datKs_enc : ∀ {ks : List Str} {f : Str → Nat}, ks ≠ [] → datKs (encF ks f) = none
  | [], _, h => absurd rfl h
  | k :: ks, f, _ => rfl
theorem mkD_enc {ks : List Str} {f : Str → Nat} {M : MS} (h : ks ≠ []) : mkD (encF ks f) M = some (.m M.length, M ++ [.dic (encF ks f)]) := by
  unfold mkD; rw [datKs_enc h]
theorem keys_enc {f : Str → Nat} : ∀ ks : List Str, keysS' (encF ks f) = some ks
  | [] => rfl
  | k :: ks => by
    show (keysS' (encF ks f)).map (fun l => k :: l) = _
    rw [keys_enc ks]; rfl
theorem sort_enc {ks : List Str} {f : Str → Nat} {M : MS} {j : Nat} (hj : M[j]? = some (.dic (encF ks f))) (h : ks.length < 64) : altV sortV sortKV (.m j) M = some (.d (.list ((sortS ks).map .str)), M) := by
  have e1 : sortV (.m j) M = none := by
    unfold sortV
    rw [lstD_m, hj]; rfl
  have e2 : dicW0 M (.m j) = some (encF ks f) := by
    show (match M[j]? with
      | some (.dic ks) => some ks
      | _ => none) = _
    rw [hj]
  unfold altV
  rw [e1]
  unfold sortKV
  simp only [e2]
  simp [keys_enc, h]
theorem get_tab {t : Tab} {a : Str} (h : a ∈ t.map (·.1)) (M : MS) : ixV (.d (tabD t)) (.d (.str a)) M = some (.d (.tuple ((getT t a).map .int)), M) := by
  unfold tabD
  have e := look_tab h
  unfold ixV
  simp [-List.map_map, look_map, e]
theorem p_done_ok {h : List HRow} {t : Tab} {ds : List Deed} {B : Nat} (ok : HouseOk h) (hk : ∀ a ∈ sorts h, a ∈ t.map (·.1)) (hd : ∀ d ∈ ds, DeedIn (sorts h) d) (hb : ∀ p ∈ t, p.2.length ≤ B) (hB : (B + 1) * 2 ^ ds.length ≤ 4000000) (M : MS) :
    F_p_done [.d (houseD h), .d (tabD t), .d (scriptD ds)] M = .ok (.d (tabD (sortedT (runT (startT h t) ds)))) M ∧
    F_p_done_M [.d (houseD h), .d (tabD t), .d (scriptD ds)] M = .ok (.m M.length) (M ++ [.dic (tabK (sortedT (runT (startT h t) ds)))]) := by
  have hl : h.length ≤ 9 := ok.n1
  have hl2 : h.length < 16777216 := by omega
  have n0 : sorts h ≠ [] := fun z => ok.n0 (List.map_eq_nil_iff.mp z)
  have R0 : RowsM M M (getT t) [] (fun _ => 0) := ⟨⟨[], by simp⟩, fun a ha => by simp at ha, fun a ha => by simp at ha⟩
  obtain ⟨M1, f1, e1, R1⟩ := init_loop (inj := rowD) (nm := (·.name)) (g := getT t) (tg := tupG 3 (consG (nmG 4) (consG (nmG 5) (consG (nmG 6) nilG)))) (fk := k_p_done_1) (fv := e_p_done_1) (Γ0 := [some (.d (houseD h)), some (.d (tabD t)), some (.d (scriptD ds)), none, none, none, none, none]) (A := M) h
    (fun r hr M => ⟨_, rfl, rfl, by
      have e2 := get_tab (hk r.name (List.mem_map.mpr ⟨r, hr, rfl⟩)) M
      simp [e_p_done_1_ap, e2, rowsW]⟩) R0 (by simpa [sorts] using ok.nd)
  have T1 := R1.tab (t := startT h t) (by rw [startT_keys]; rfl) (fun a ha => startT_get ha)
  have hlen : (startT h t).length = h.length := List.length_map _
  obtain ⟨M2, f2, o2, e2, T2⟩ := p_done_loop (w0 := some (.d (houseD h))) (w1 := some (.d (tabD t))) (w2 := some (.d (scriptD ds))) ds none T1 (by rw [startT_keys]; exact hd) (startT_bd hb) hB (by omega)
  have ke : (runT (startT h t) ds).map (·.1) = sorts h := by rw [runT_keys, startT_keys]
  have es := sort_enc T2.dic (by rw [ke, sorts, List.length_map]; omega)
  have nds : (sortS (sorts h)).Nodup := (sortS_perm _).nodup_iff.mpr ok.nd
  have mem : ∀ a ∈ sortS (sorts h), a ∈ (runT (startT h t) ds).map (·.1) := fun a ha => by rw [ke]; exact (sortS_perm _).mem_iff.mp ha
  obtain ⟨J, eJ⟩ := T2.pre
  have e3 := tup_loop (fk := k_p_done_2) (fv := e_p_done_2) (Γ0 := [some (.d (houseD h)), some (.d (tabD t)), some (.d (scriptD ds)), some (.m M1.length), none, none, none, o2]) (M := M2) (i := 4) (g := fun a => .tuple ((getT (runT (startT h t) ds) a).map .int)) (sortS (sorts h)) (ks := []) (fun a ha => by
    have hm := mem a ha
    refine ⟨rfl, ?_⟩
    simp [e_p_done_2_ap, T2.dic, look_encF, hm, toTup, (T2.cell a hm).2]) (fun _ _ q hq => by simp at hq) nds
  have hlen2 : (sortS (sorts h)).length < 16777216 := by rw [(sortS_perm _).length_eq, sorts, List.length_map]; exact hl2
  have e4 : (sortedT (runT (startT h t) ds)) = (sortS (sorts h)).map fun a => (a, getT (runT (startT h t) ds) a) := by unfold sortedT; rw [ke]
  have e5 : (sortS (sorts h)).map PyData.str = (sortS (sorts h)).map PyData.str := rfl
  have hG : g_p_done [some (.d (houseD h)), some (.d (tabD t)), some (.d (scriptD ds)), none, none, none, none, none] M = .rt (.m M2.length) (M2 ++ [.dic (tabK (sortedT (runT (startT h t) ds)))]) := by
    have e6 : h.map (fun r => r.name) = sorts h := rfl
    simp only [List.nil_append, e6] at e1
    simp only [List.map_nil, List.nil_append] at e3
    have e7 : dcL (nmG 4) yesT k_p_done_2 e_p_done_2 [some (.d (houseD h)), some (.d (tabD t)), some (.d (scriptD ds)), some (.m M1.length), none, none, none, o2] ((sortS (sorts h)).map .str) [] M2 = .ok (tabK (sortedT (runT (startT h t) ds))) M2 := by
      rw [e3, e4]; simp [tabK]
    rw [ke] at es
    have e8 : encF ([] : List Str) (fun _ => 0) = [] := rfl
    rw [e8] at e1
    rw [List.nil_append, e6] at e2
    simp [g_p_done, hl2, mkD_enc n0, mkDM, e1, e2, es, hlen2, e7]

  have hK : M2 ++ [.dic (tabK (sortedT (runT (startT h t) ds)))] = M ++ J ++ [.dic ((sortedT (runT (startT h t) ds)).map (fun p => ((Sum.inr p.1 : Key), PyData.tuple (p.2.map .int))) |>.map fun q => (q.1, W.d q.2))] := by rw [eJ]; simp [tabK]
  have hn : M2.length = M.length + J.length := by rw [eJ, List.length_append]
  have a1 := finD_K (A := M) (J := J) (ks := (sortedT (runT (startT h t) ds)).map (fun p => ((Sum.inr p.1 : Key), PyData.tuple (p.2.map .int))))
  have a2 := finM_K (A := M) (J := J) (ks := (sortedT (runT (startT h t) ds)).map (fun p => ((Sum.inr p.1 : Key), PyData.tuple (p.2.map .int))))
  rw [← hK, ← hn] at a1 a2
  constructor
  · show rsFin _ _ (g_p_done _ _) = _
    exact (congrArg _ hG).trans a1
  · show rsFin _ _ (g_p_done _ _) = _
    exact (congrArg _ hG).trans (a2.trans (by simp [tabK]))
end Z

/-! P6: the law's own done. -/
namespace Z
open PySem PySem.Spec PyProof.Rows L2
theorem done_step {A M : MS} {t : Tab} {f : Str → Nat} {j : Nat} {d : Deed} {w0 w1 w3 o4 o5 o6 o7 : Option W} (T : TabM A M t f j) (hd : InN (t.map (·.1)) d) (sh : ∀ p ∈ t, p.2.length < 4000000) (ln : t.length < 100) (hk : (∀ a k, d = .keep a k → 0 ≤ k) ∧ (∀ a k, d = .go a k → 1 ≤ k) ∧ (∀ a k b, d = .move a k b → 1 ≤ k)) :
    ∃ M' f' o5' o6' o7', b_done_1 [w0, w1, some (.m j), w3, some (.d (deedD d)), o5, o6, o7] M = .nx [w0, w1, some (.m j), w3, some (.d (deedD d)), o5', o6', o7'] M' ∧ TabM A M' (stepT t d) f' j := by
  have hl : (encF (t.map (·.1)) f).length < 16777216 := by rw [encF_len, List.length_map]; omega
  have rows : ∀ a ∈ t.map (·.1), (getT t a).length < 4000000 := fun a ha => getT_short ha sh
  cases d with
  | come a n =>
    have ha : a ∈ t.map (·.1) := hd
    refine ⟨_, _, some (.m (f a)), some (.d (.str "come")), o7, ?_, T.put ha (sortI (getT t a ++ [n]))⟩
    have h1 := rows a ha
    have h3 : (getT t a).length + 1 ≤ 16777216 := by omega
    simp [b_done_1_ap, deedD, T.dic, look_encF, ha, (T.cell a ha).2, rdO_rows, h3, get_pre T.dic, hl, -List.map_append]
  | merge a b =>
    have ha : a ∈ t.map (·.1) := hd.1
    have hb : b ∈ t.map (·.1) := hd.2.1
    have h1 := rows a ha
    have h2 := rows b hb
    have T1 := T.put hb (sortI (getT t b ++ getT t a))
    have T2 := T1.put (setT_mem ha) []
    refine ⟨_, _, some (.m (f a)), some (.d (.str "merge")), o7, ?_, T2⟩
    have h3 : (getT t b).length + (getT t a).length ≤ 16777216 := by omega
    have e1 : (getT t b).map PyData.int ++ (getT t a).map PyData.int = (getT t b ++ getT t a).map PyData.int := by simp
    have hl2 := T1.dic
    have hl3 : (encF (List.map (fun x => x.fst) (setT t b (sortI (getT t b ++ getT t a)))) fun x => if x = b then List.length M else f x).length < 16777216 := by rw [encF_len, List.length_map, setT_len]; omega
    simp [b_done_1_ap, deedD, T.dic, look_encF, ha, hb, (T.cell a ha).2, (T.cell b hb).2, e1, h3, get_pre T.dic, hl, -List.map_append]
    simp [get_pre hl2, hl3]
  | keep a k =>
    have ha : a ∈ t.map (·.1) := hd
    have h1 := rows a ha
    have h0 := hk.1 a k rfl
    refine ⟨_, _, some (.m (f a)), some (.d (.str "keep")), o7, ?_, T.put ha ((getT t a).drop (((getT t a).length : Int) - k).toNat)⟩
    have e1 : cutD ((getT t a).map PyData.int) (some (if 0 < ((getT t a).length : Int) - k then ((getT t a).length : Int) - k else 0)) none = ((getT t a).drop (((getT t a).length : Int) - k).toNat).map .int := by
      split
      · rw [cut_drop _ (by omega), List.map_drop]
      · rw [cut_drop _ (by omega), List.map_drop]; congr 1; omega
    simp only [Int.sub_pos] at e1
    simp [b_done_1_ap, deedD, T.dic, look_encF, ha, (T.cell a ha).2, e1, get_pre T.dic, hl, -List.map_append, rowsW]
  | go a k =>
    have ha : a ∈ t.map (·.1) := hd
    have h1 := rows a ha
    have h0 := hk.2.1 a k rfl
    by_cases c : k ≤ ((getT t a).length : Int)
    · have h4 : (((getT t a).length : Int) - k).toNat < (getT t a).length := by omega
      have h5 : seqIndex? (((getT t a).length : Int) - k) (getT t a).length = some (((getT t a).length : Int) - k).toNat := ix_of (by omega) (by omega)
      have h6 : -9223372036854775808 ≤ ((getT t a).length : Int) - k := by omega
      have h7 : ((getT t a).length : Int) - k < 9223372036854775808 := by omega
      refine ⟨M.set (f a) (.lst (rowsW ((getT t a).eraseIdx (((getT t a).length : Int) - k).toNat))), f, some (.m (f a)), some (.d (.str "go")), some (.d (.int ((getT t a)[(((getT t a).length : Int) - k).toNat]))), ?_, ?_⟩
      · simp [b_done_1_ap, deedD, T.dic, look_encF, ha, (T.cell a ha).2, c, -List.map_append, popV, h5, h6, h7, h4, rowsW_get, rowsW_erase]
      · have := T.pop ha ((getT t a).eraseIdx (((getT t a).length : Int) - k).toNat)
        simpa [stepT, c] using this
    · refine ⟨M, f, some (.m (f a)), some (.d (.str "go")), o7, ?_, ?_⟩
      · simp [b_done_1_ap, deedD, T.dic, look_encF, ha, (T.cell a ha).2, c, -List.map_append]
      · simpa [stepT, c] using T
  | move a k b =>
    have ha : a ∈ t.map (·.1) := hd.1
    have hb : b ∈ t.map (·.1) := hd.2.1
    have h1 := rows a ha
    have h2 := rows b hb
    have h0 := hk.2.2 a k b rfl
    by_cases c : k ≤ ((getT t a).length : Int)
    · have h4 : (((getT t a).length : Int) - k).toNat < (getT t a).length := by omega
      have h5 : seqIndex? (((getT t a).length : Int) - k) (getT t a).length = some (((getT t a).length : Int) - k).toNat := ix_of (by omega) (by omega)
      have h6 : -9223372036854775808 ≤ ((getT t a).length : Int) - k := by omega
      have h7 : ((getT t a).length : Int) - k < 9223372036854775808 := by omega
      have T1 := T.pop ha ((getT t a).eraseIdx (((getT t a).length : Int) - k).toNat)
      have hb1 : b ∈ (setT t a ((getT t a).eraseIdx (((getT t a).length : Int) - k).toNat)).map (·.1) := setT_mem hb
      have gb : getT (setT t a ((getT t a).eraseIdx (((getT t a).length : Int) - k).toNat)) b = getT t b := by rw [getT_set _ ha, if_neg (Ne.symm hd.2.2)]
      have T2 := T1.put hb1 (sortI (getT (setT t a ((getT t a).eraseIdx (((getT t a).length : Int) - k).toNat)) b ++ [(getT t a).getD (((getT t a).length : Int) - k).toNat 0]))
      have e2 := (T1.cell b hb1).2
      have e3 := T1.dic
      rw [setT_keys] at e3
      rw [gb] at e2
      have h8 : (getT t b).length + 1 ≤ 16777216 := by omega
      refine ⟨_, _, some (.m (f a)), some (.d (.str "move")), some (.d (.int ((getT t a)[(((getT t a).length : Int) - k).toNat]))), ?_, by simpa [stepT, c] using T2⟩
      simp [b_done_1_ap, deedD, T.dic, look_encF, ha, hb, (T.cell a ha).2, c, -List.map_append, popV, h5, h6, h7, h4, rowsW_get, rowsW_erase, e2, e3, h8, get_pre e3, hl, setT_keys, gb]
    · refine ⟨M, f, some (.m (f a)), some (.d (.str "move")), o7, ?_, ?_⟩
      · simp [b_done_1_ap, deedD, T.dic, look_encF, ha, (T.cell a ha).2, c, -List.map_append]
      · simpa [stepT, c] using T
theorem done_loop {A : MS} {j : Nat} {w0 w1 w3 : Option W} : ∀ (ds : List Deed) {M : MS} {t : Tab} {f : Str → Nat} {B : Nat} (o4 o5 o6 o7 : Option W), TabM A M t f j → (∀ d ∈ ds, DeedIn (t.map (·.1)) d) → (∀ p ∈ t, p.2.length ≤ B) → (B + 1) * 2 ^ ds.length ≤ 4000000 → t.length < 100 →
    ∃ M' f' o4' o5' o6' o7', forL (nmG 4) b_done_1 (ds.map deedD) [w0, w1, some (.m j), w3, o4, o5, o6, o7] M = .nx [w0, w1, some (.m j), w3, o4', o5', o6', o7'] M' ∧ TabM A M' (runT t ds) f' j
  | [], M, t, f, B, o4, o5, o6, o7, T, _, _, _, _ => ⟨M, f, o4, o5, o6, o7, rfl, T⟩
  | d :: ds, M, t, f, B, o4, o5, o6, o7, T, hd, hb, hB, hl => by
    rw [List.length_cons, Nat.pow_succ] at hB
    have h0 : 1 ≤ 2 ^ ds.length := Nat.one_le_two_pow
    have hB2 : (2 * B + 1 + 1) * 2 ^ ds.length ≤ 4000000 := by rw [show 2 * B + 1 + 1 = (B + 1) * 2 from by omega, Nat.mul_assoc, Nat.mul_comm 2]; exact hB
    have hB1 : (2 * B + 2) * 1 ≤ (2 * B + 1 + 1) * 2 ^ ds.length := Nat.mul_le_mul_left _ h0
    obtain ⟨M1, f1, q5, q6, q7, e1, T1⟩ := done_step (w0 := w0) (w1 := w1) (w3 := w3) (o4 := o4) (o5 := o5) (o6 := o6) (o7 := o7) T (hd d List.mem_cons_self).1 (fun p hp => by have := hb p hp; omega) hl (hd d List.mem_cons_self).2
    obtain ⟨M2, f2, r4, r5, r6, r7, e2, T2⟩ := done_loop ds (M := M1) (t := stepT t d) (f := f1) (B := 2 * B + 1) (w0 := w0) (w1 := w1) (w3 := w3) (some (.d (deedD d))) q5 q6 q7 T1 (fun d' h' => by rw [stepT_keys]; exact hd d' (List.mem_cons_of_mem _ h')) (stepT_bd hb d) hB2 (by have := congrArg List.length (stepT_keys t d); simp only [List.length_map] at this; omega)
    exact ⟨M2, f2, r4, r5, r6, r7, by simp [forL, e1, e2], T2⟩
theorem sort_tabD {t : Tab} {M : MS} (h : t.length < 64) : altV sortV sortKV (.d (tabD t)) M = some (.d (.list ((sortS (t.map (·.1))).map .str)), M) := by
  have e2 : dicW0 M (.d (tabD t)) = some (tabK t) := by
    have : ∀ t : Tab, unkey ((t.map fun p => ((Sum.inr p.1 : Key), PyData.tuple (p.2.map .int))).map fun q => (keyD q.1, q.2)) = some (t.map fun p => ((Sum.inr p.1 : Key), PyData.tuple (p.2.map .int))) := fun t => unkey_map _
    show (unkey _).map _ = _
    rw [this]
    simp [tabK]
  have e3 : ∀ t : Tab, keysS' (tabK t) = some (t.map (·.1)) := by
    intro t
    induction t with
    | nil => rfl
    | cons p t ih =>
      show (keysS' (tabK t)).map (fun l => p.1 :: l) = _
      rw [ih]; rfl
  unfold altV
  rw [show sortV (.d (tabD t)) M = none from rfl]
  unfold sortKV
  simp [e2, e3, h]
theorem runT_get : ∀ (ds : List Deed) {t t' : Tab}, (∀ a, a ∈ t.map (·.1) ↔ a ∈ t'.map (·.1)) → (∀ a ∈ t.map (·.1), getT t a = getT t' a) → (∀ d ∈ ds, InN (t.map (·.1)) d) → ∀ a ∈ t.map (·.1), getT (runT t ds) a = getT (runT t' ds) a
  | [], t, t', _, h, _ => h
  | d :: ds, t, t', hk, h, hd => by
    have hset : ∀ {t t' : Tab} {x : Str} {v v' : List Int}, (∀ a, a ∈ t.map (·.1) ↔ a ∈ t'.map (·.1)) → (∀ a ∈ t.map (·.1), getT t a = getT t' a) → x ∈ t.map (·.1) → v = v' → ∀ a ∈ t.map (·.1), getT (setT t x v) a = getT (setT t' x v') a := fun {t t' x v v'} hk h hx hv a ha => by
      rw [getT_set v hx, getT_set v' ((hk x).mp hx), hv, h a ha]
    have h1 : ∀ a ∈ t.map (·.1), getT (stepT t d) a = getT (stepT t' d) a := by
      have hd0 := hd d List.mem_cons_self
      cases d with
      | come x n => exact hset hk h hd0 (by rw [h x hd0])
      | keep x k => exact hset hk h hd0 (by rw [h x hd0])
      | merge x y =>
        refine fun a ha => hset (by simpa only [setT_keys] using hk) (fun b hb => hset hk h hd0.2.1 (by rw [h x hd0.1, h y hd0.2.1]) b (by rwa [setT_keys] at hb)) (by rw [setT_keys]; exact hd0.1) rfl a (by rw [setT_keys]; exact ha)
      | go x k =>
        have ex := h x hd0
        by_cases c : k ≤ ((getT t x).length : Int)
        · have e1 : stepT t (.go x k) = _ := if_pos c
          have e2 : stepT t' (.go x k) = _ := if_pos (by rw [← ex]; exact c)
          rw [e1, e2]
          exact hset hk h hd0 (by rw [ex])
        · have e1 : stepT t (.go x k) = _ := if_neg c
          have e2 : stepT t' (.go x k) = _ := if_neg (by rw [← ex]; exact c)
          rw [e1, e2]
          exact h
      | move x k y =>
        have ex := h x hd0.1
        by_cases c : k ≤ ((getT t x).length : Int)
        · have e1 : stepT t (.move x k y) = _ := if_pos c
          have e2 : stepT t' (.move x k y) = _ := if_pos (by rw [← ex]; exact c)
          rw [e1, e2]
          have i1 := hset (x := x) (v := (getT t x).eraseIdx (((getT t x).length : Int) - k).toNat) (v' := (getT t' x).eraseIdx (((getT t' x).length : Int) - k).toNat) hk h hd0.1 (by rw [ex])
          refine fun a ha => hset (by simpa only [setT_keys] using hk) (fun b hb => i1 b (by rwa [setT_keys] at hb)) (by rw [setT_keys]; exact hd0.2.1) (by rw [i1 y hd0.2.1, ex]) a (by rw [setT_keys]; exact ha)
        · have e1 : stepT t (.move x k y) = _ := if_neg c
          have e2 : stepT t' (.move x k y) = _ := if_neg (by rw [← ex]; exact c)
          rw [e1, e2]
          exact h
    intro a ha
    exact runT_get ds (by simpa only [stepT_keys] using hk) (by simpa only [stepT_keys] using h1) (by simpa only [stepT_keys] using fun d' h' => hd d' (List.mem_cons_of_mem _ h')) a (by rw [stepT_keys]; exact ha)
theorem tab_ext : ∀ {t t' : Tab}, t.map (·.1) = t'.map (·.1) → (t.map (·.1)).Nodup → (∀ a ∈ t.map (·.1), getT t a = getT t' a) → t = t'
  | [], t', h, _, _ => by cases t' with
    | nil => rfl
    | cons q r => simp at h
  | p :: t, t', h, nd, hg => by
    cases t' with
    | nil => simp at h
    | cons q r =>
      simp only [List.map_cons, List.cons.injEq] at h
      have e0 := hg p.1 List.mem_cons_self
      rw [getT_head, show p.1 = q.1 from h.1, getT_head] at e0
      have nd2 := List.nodup_cons.mp (show (p.1 :: t.map (·.1)).Nodup from nd)
      have e1 : t = r := tab_ext h.2 nd2.2 fun a ha => by
        have n1 : p.1 ≠ a := fun z => nd2.1 (z ▸ ha)
        have := hg a (List.mem_cons_of_mem _ ha)
        rw [getT_tail n1, getT_tail (by rw [← h.1]; exact n1)] at this
        exact this
      rw [e1, Prod.ext h.1 e0]
theorem sortedT_keys (t : Tab) : (sortedT t).map (·.1) = sortS (t.map (·.1)) := by
  unfold sortedT
  rw [List.map_map]
  exact (List.map_congr_left fun _ _ => rfl).trans (List.map_id _)
theorem sortedT_get {t : Tab} {a : Str} (h : a ∈ t.map (·.1)) : getT (sortedT t) a = getT t a := by
  unfold sortedT
  exact getT_mapped ((sortS_perm _).mem_iff.mpr h)
theorem mem_sortS {a : Str} {l : List Str} : a ∈ sortS l ↔ a ∈ l := (sortS_perm l).mem_iff
theorem nd_sortS {l : List Str} : (sortS l).Nodup ↔ l.Nodup := (sortS_perm l).nodup_iff
theorem sortS_sortS (l : List Str) : sortS (sortS l) = sortS l := (sortS_of (List.Perm.refl _) (sortS_pw l)).symm
theorem len_sortS (l : List Str) : (sortS l).length = l.length := (sortS_perm l).length_eq
theorem run_sorted {t : Tab} {ds : List Deed} (nd : (t.map (·.1)).Nodup) (hd : ∀ d ∈ ds, InN (t.map (·.1)) d) : runT (sortedT t) ds = sortedT (runT t ds) := by
  have hk : (runT (sortedT t) ds).map (·.1) = sortS (t.map (·.1)) := by rw [runT_keys, sortedT_keys]
  have mk : ∀ a, a ∈ t.map (·.1) ↔ a ∈ (sortedT t).map (·.1) := fun a => by rw [sortedT_keys, mem_sortS]
  refine tab_ext (by rw [hk, sortedT_keys, runT_keys]) (by rw [hk]; exact nd_sortS.mpr nd) fun a ha => ?_
  rw [hk, mem_sortS] at ha
  rw [sortedT_get (by rw [runT_keys]; exact ha)]
  exact (runT_get ds mk (fun a ha => (sortedT_get ha).symm) hd a ha).symm
theorem encF_keys {ks : List Str} {f : Str → Nat} : (encF ks f).map keyD' = ks.map .str := by
  unfold encF
  rw [List.map_map]; rfl
theorem done_ok {t : Tab} {ds : List Deed} {B : Nat} (nd : (t.map (·.1)).Nodup) (hl : t.length < 64) (hd : ∀ d ∈ ds, DeedIn (t.map (·.1)) d) (hb : ∀ p ∈ t, p.2.length ≤ B) (hB : (B + 1) * 2 ^ ds.length ≤ 4000000) (M : MS) :
    F_done [.d (tabD t), .d (scriptD ds)] M = .ok (.d (tabD (sortedT (runT t ds)))) M := by
  have es := sort_tabD (t := t) (M := M) hl
  have R0 : RowsM M M (getT t) [] (fun _ => 0) := ⟨⟨[], by simp⟩, fun a ha => by simp at ha, fun a ha => by simp at ha⟩
  obtain ⟨M1, f1, e1, R1⟩ := init_loop (inj := PyData.str) (nm := id) (g := getT t) (tg := nmG 3) (fk := k_done_1) (fv := e_done_1) (Γ0 := [some (.d (tabD t)), some (.d (scriptD ds)), none, none, none, none, none, none]) (A := M) (sortS (t.map (·.1)))
    (fun x hx M => ⟨_, rfl, rfl, by
      have e2 := get_tab (mem_sortS.mp hx) M
      simp [e_done_1_ap, e2, rowsW]⟩) R0 (by simpa using nd_sortS.mpr nd)
  have e8 : encF ([] : List Str) (fun _ => 0) = [] := rfl
  simp only [List.nil_append, List.map_id, e8] at e1 R1
  have T1 := R1.tab (t := sortedT t) (sortedT_keys t) (fun a ha => sortedT_get (mem_sortS.mp ha))
  have hlen : (sortedT t).length = t.length := by rw [← List.length_map (f := fun p : Str × List Int => p.1), sortedT_keys, len_sortS, List.length_map]
  have hd1 : ∀ d ∈ ds, DeedIn ((sortedT t).map (·.1)) d := fun d h => by
    have mk : ∀ a, a ∈ t.map (·.1) → a ∈ (sortedT t).map (·.1) := fun a h => by rw [sortedT_keys]; exact mem_sortS.mpr h
    obtain ⟨i1, i2⟩ := hd d h
    refine ⟨?_, i2⟩
    cases d with
    | come a n => exact mk a i1
    | go a n => exact mk a i1
    | keep a n => exact mk a i1
    | move a n b => exact ⟨mk a i1.1, mk b i1.2.1, i1.2.2⟩
    | merge a b => exact ⟨mk a i1.1, mk b i1.2.1, i1.2.2⟩
  have hb1 : ∀ p ∈ sortedT t, p.2.length ≤ B := fun p hp => by
    obtain ⟨a, _, rfl⟩ := List.mem_map.mp hp
    exact getT_bd hb
  obtain ⟨M2, f2, o4, o5, o6, o7, e2, T2⟩ := done_loop (w0 := some (.d (tabD t))) (w1 := some (.d (scriptD ds))) (w3 := none) ds none none none none T1 hd1 hb1 hB (by omega)
  have ke : (runT (sortedT t) ds).map (·.1) = sortS (t.map (·.1)) := by rw [runT_keys, sortedT_keys]
  have lt : M1.length < M2.length := (List.getElem?_eq_some_iff.mp T2.dic).1
  have back : (M2.set M1.length (.dil (encF (sortS (t.map (·.1))) f2))).set M1.length (.dic (encF (sortS (t.map (·.1))) f2)) = M2 := by
    rw [List.set_set]
    exact cell_same (by rw [← ke]; exact T2.dic)
  have e3 := tup_loop (fk := k_done_2) (fv := e_done_2) (Γ0 := [some (.d (tabD t)), some (.d (scriptD ds)), some (.m M1.length), none, o4, o5, o6, o7]) (M := M2.set M1.length (.dil (encF (sortS (t.map (·.1))) f2))) (i := 3) (g := fun a => .tuple ((getT (runT (sortedT t) ds) a).map .int)) (sortS (t.map (·.1))) (ks := []) (fun a ha => by
    have hm : a ∈ (runT (sortedT t) ds).map (·.1) := by rw [ke]; exact ha
    have c := T2.cell a hm
    have ne : M1.length ≠ f2 a := fun z => c.1.2 z.symm
    refine ⟨rfl, ?_⟩
    simp [e_done_2_ap, lt, look_encF, ha, toTup, List.getElem?_set_ne ne, c.2]) (fun _ _ q hq => by simp at hq) (nd_sortS.mpr nd)
  have hlen2 : (sortS (t.map (·.1))).length < 16777216 := by rw [len_sortS, List.length_map]; omega
  have e4 : (sortS (t.map (·.1))).map (fun x => ((Sum.inr x : Key), PyData.tuple ((getT (runT (sortedT t) ds) x).map .int))) = (sortedT (runT t ds)).map (fun p => ((Sum.inr p.1 : Key), PyData.tuple (p.2.map .int))) := by
    have e : sortedT (runT t ds) = (sortS ((runT t ds).map (·.1))).map fun a => (a, getT (runT t ds) a) := rfl
    rw [e, runT_keys, List.map_map]
    refine List.map_congr_left fun a ha => ?_
    show (Sum.inr a, _) = ((Sum.inr a : Key), PyData.tuple ((getT (runT t ds) a).map .int))
    rw [run_sorted nd (fun d h => (hd d h).1), sortedT_get (by rw [runT_keys]; exact mem_sortS.mp ha)]
  simp only [List.map_nil, List.nil_append] at e3
  rw [e4] at e3
  obtain ⟨J, eJ⟩ := T2.pre
  have dic := T2.dic
  rw [ke] at dic
  have hG : g_done [some (.d (tabD t)), some (.d (scriptD ds)), none, none, none, none, none, none] M = .rt (.d (tabD (sortedT (runT t ds)))) M2 := by
    simp [g_done, es, hlen2, e1, mkDM, e2, dic, encF_keys, e3, -List.map_map, cell_set dic, back]
    rfl
  show rsFin _ _ (g_done _ _) = _
  refine (congrArg _ hG).trans ?_
  rw [rsFin_rt, eJ]
  exact finD_A
end Z

/-! P7: alike, in, deeds by form. -/
namespace Z
open PySem PySem.Spec PyProof.Rows L2
section
variable {M : MS} {x y : W} {f g : W → W → MS → Option Bool}
def altC2 (o : Option Bool) (g : W → W → MS → Option Bool) (x y : W) (M : MS) : Option Bool := match o with
  | some r => some r
  | none => g x y M
@[simp] theorem altC_ap : altC f g x y M = altC2 (f x y M) g x y M := rfl
@[simp] theorem altC2_some {r : Bool} : altC2 (some r) g x y M = some r := rfl
@[simp] theorem altC2_none : altC2 none g x y M = g x y M := rfl
@[simp] theorem isi_d {T : String} {d : PyData} : isiV T (.d d) M = some (.d (.bool (isTy (tyD d) T)), M) := rfl
@[simp] theorem repr_d {d : PyData} : reprV (.d d) M = (reprD d).map fun s => (.d (.str s), M) := rfl
end
def isS (s : Str) : PyData → Bool
  | .str t => decide (t = s)
  | _ => false
@[simp] theorem isS_str {s t : Str} : isS s (.str t) = decide (t = s) := rfl
theorem isS_no {s : Str} {x : PyData} (h : ∀ t, x ≠ .str t) : isS s x = false := by
  cases x <;> first | rfl | exact absurd rfl (h _)
/-- the parts of things that may be deeds -/
inductive Leaf : PyData → Prop
  | non : Leaf .none
  | bl (b : Bool) : Leaf (.bool b)
  | int (i : Int) : Leaf (.int i)
  | str (s : Str) : Plain (.str s) → Leaf (.str s)
  | nil : Leaf (.list [])
  | emp : Leaf (.dict [])
  | tup (xs : List PyData) : SeqAt.shaped (.tuple xs) = true → Leaf (.tuple xs)
theorem alike_str {s : Str} {x : PyData} (hs : Plain (.str s)) (h : Leaf x) (M : MS) : F_alike [.d (.str s), .d x] M = .ok (.d (.bool (isS s x))) M := by
  have hr := reprD_of hs.sw hs.dp hs.ln
  have sh := hs.sh
  have key : ∀ x, SeqAt.shaped x = true → PyData.eqv (.str s) x = false → (∀ t, x ≠ .str t) → F_alike [.d (.str s), .d x] M = .ok (.d (.bool (isS s x))) M := fun x h1 h2 h3 => by
    have e : eqC (.d (.str s)) (.d x) M = some false := by
      show eqD (.str s) x = _
      cases x <;> first | exact absurd rfl (h3 _) | (show (if SeqAt.shaped (.str s) && SeqAt.shaped _ then some (PyData.eqv (.str s) _) else none) = _; rw [sh, h1, h2]; rfl) | (exfalso; simp [SeqAt.shaped, PyData.canLay0] at h1; done)
    simp [F_alike, defF_ap, g_alike, e, isS_no h3]
  cases h with
  | non => exact key _ rfl rfl (by simp)
  | bl b => exact key _ rfl rfl (by simp)
  | int i => exact key _ rfl rfl (by simp)
  | nil => exact key _ rfl rfl (by simp)
  | tup xs hx => exact key _ hx rfl (by simp)
  | str t ht =>
    by_cases e : s = t
    · subst e
      simp [F_alike, defF_ap, g_alike, hr]
    · have e2 : ¬ t = s := fun z => e z.symm
      simp [F_alike, defF_ap, g_alike, e, e2]
  | emp =>
    have e : eqC (.d (.str s)) (.d (.dict [])) M = none := by
      show eqD (.str s) (.dict []) = _
      show (if SeqAt.shaped (.str s) && SeqAt.shaped (.dict []) then some (PyData.eqv (.str s) (.dict [])) else none) = _
      simp [SeqAt.shaped, PyData.canLay0]
    have e2 : eqXW (.d (.str s)) (.d (.dict [])) M = some false := rfl
    simp [F_alike, defF_ap, g_alike, e, e2, isS]
theorem str_alike {s : Str} {x : PyData} (hs : Plain (.str s)) (h : Leaf x) (ne : x ≠ .dict []) (M : MS) : F_alike [.d x, .d (.str s)] M = .ok (.d (.bool (isS s x))) M := by
  have hr := reprD_of hs.sw hs.dp hs.ln
  have sh := hs.sh
  have key : ∀ x, SeqAt.shaped x = true → PyData.eqv x (.str s) = false → (∀ t, x ≠ .str t) → F_alike [.d x, .d (.str s)] M = .ok (.d (.bool (isS s x))) M := fun x h1 h2 h3 => by
    have e : eqC (.d x) (.d (.str s)) M = some false := by
      show eqD x (.str s) = _
      cases x <;> first | exact absurd rfl (h3 _) | (show (if SeqAt.shaped _ && SeqAt.shaped (.str s) then some (PyData.eqv _ (.str s)) else none) = _; rw [sh, h1, h2]; rfl) | (exfalso; simp [SeqAt.shaped, PyData.canLay0] at h1; done)
    simp [F_alike, defF_ap, g_alike, e, isS_no h3]
  cases h with
  | non => exact key _ rfl rfl (by simp)
  | bl b => exact key _ rfl rfl (by simp)
  | int i => exact key _ rfl rfl (by simp)
  | nil => exact key _ rfl rfl (by simp)
  | tup xs hx => exact key _ hx rfl (by simp)
  | str t ht =>
    by_cases e : t = s
    · subst e
      simp [F_alike, defF_ap, g_alike, hr]
    · simp [F_alike, defF_ap, g_alike, e]
  | emp => exact absurd rfl ne
/-- what may be compared with itself and shown, dicts too -/
structure Comp (d : PyData) : Prop where
  eq : altC eqC eqXW (.d d) (.d d) [] = some true
  sw : d.showable = true
  dp : d.depth ≤ 60
  ln : d.shown.length ≤ sizeLine
theorem eqC_dd {x y : PyData} {M : MS} : eqC (.d x) (.d y) M = eqD x y := rfl
theorem eqX_dd {x y : PyData} {M : MS} : eqXW (.d x) (.d y) M = eqX x y := rfl
theorem alike_same {d : PyData} (h : Comp d) (M : MS) : F_alike [.d d, .d d] M = .ok (.d (.bool true)) M := by
  have hr := reprD_of h.sw h.dp h.ln
  have he : altC2 (eqC (.d d) (.d d) M) eqXW (.d d) (.d d) M = some true := h.eq
  simp [F_alike, defF_ap, g_alike, hr, he]
theorem Plain.comp {d : PyData} (h : Plain d) : Comp d := ⟨by
  have : eqD d d = some true := by
    unfold eqD
    split
    · simp
    · rw [h.sh, h.eq]; rfl
  show altC2 (eqD d d) _ _ _ _ = _
  rw [this]; rfl, h.sw, h.dp, h.ln⟩
theorem alike_bool (a b : Bool) (M : MS) : F_alike [.d (.bool a), .d (.bool b)] M = .ok (.d (.bool (decide (a = b)))) M := by
  by_cases e : a = b
  · subst e
    rw [alike_same (Plain.comp ⟨by rfl, by rfl, by cases a <;> decide, by cases a <;> decide, by cases a <;> rfl⟩)]
    simp
  · have h : eqC (.d (.bool a)) (.d (.bool b)) M = some false := by
      show (if SeqAt.shaped (.bool a) && SeqAt.shaped (.bool b) then some (PyData.eqv (.bool a) (.bool b)) else none) = _
      have : PyData.eqv (.bool a) (.bool b) = false := by simp [PyData.eqv, e]
      rw [this]; rfl
    simp [F_alike, defF_ap, g_alike, h, e]
theorem in_leaf {names : List Str} (hn : ∀ s ∈ names, Plain (.str s)) (hl : names.length < 1000) {x : PyData} (h : Leaf x) (M : MS) : F_in [.d (.list (names.map .str)), .d x] M = .ok (.d (.bool (names.any fun s => isS s x))) M := by
  have e := lcL_filter (i := 2) (t := t_in_1) (f := e_in_1) (Γ := [some (.d (.list (names.map .str))), some (.d x), none]) (M := M) (inj := PyData.str) (g := PyData.str) (p := fun s => isS s x) (xs := names)
    (fun s hs => by simp [t_in_1_ap, alike_str (hn s hs) h]) (fun s hs _ => rfl)
  have hl2 : names.length < 16777216 := by omega
  have e2 : neC (.d (.list ((names.filter fun s => isS s x).map .str))) (.d (.list [])) M = some (names.any fun s => isS s x) := by
    have h1 : SeqAt.shaped (.list ((names.filter fun s => isS s x).map .str)) = true := by
      have lay : ∀ l : List Str, (∀ s ∈ l, Plain (.str s)) → PyData.canLayAll0 (l.map .str) = true ∧ PyData.depthAll (l.map .str) ≤ 60 := by
        intro l
        induction l with
        | nil => intro _; exact ⟨rfl, by decide⟩
        | cons s l ih =>
          intro hs
          obtain ⟨i1, i2⟩ := ih fun t ht => hs t (List.mem_cons_of_mem _ ht)
          have p := hs s List.mem_cons_self
          refine ⟨?_, ?_⟩
          · rw [List.map_cons, PyData.canLayAll0, SeqAt.canLay_of_shaped p.sh, i1]; rfl
          · rw [List.map_cons, PyData.depthAll]; have := p.dp; omega
      obtain ⟨i1, i2⟩ := lay _ (fun s hs => hn s ((List.mem_filter.mp hs).1))
      unfold SeqAt.shaped
      rw [PyData.canLay0, i1, PyData.depth]
      simp; omega
    have h2 : PyData.eqv (.list ((names.filter fun s => isS s x).map .str)) (.list []) = !(names.any fun s => isS s x) := by
      rw [PyData.eqv]
      cases hf : names.filter fun s => isS s x with
      | nil =>
        have : (names.any fun s => isS s x) = false := by
          rw [List.any_eq_false]
          intro s hs hx
          have : s ∈ names.filter fun s => isS s x := List.mem_filter.mpr ⟨hs, hx⟩
          rw [hf] at this; simp at this
        rw [this]; rfl
      | cons a l =>
        have : (names.any fun s => isS s x) = true := by
          have ha : a ∈ names.filter fun s => isS s x := by rw [hf]; exact List.mem_cons_self
          rw [List.mem_filter] at ha
          exact List.any_eq_true.mpr ⟨a, ha.1, ha.2⟩
        rw [this]; rfl
    have e3 : eqD (.list ((names.filter fun s => isS s x).map .str)) (.list []) = some (!(names.any fun s => isS s x)) := by
      show (if SeqAt.shaped (.list ((names.filter fun s => isS s x).map .str)) && SeqAt.shaped (.list []) then some (PyData.eqv (.list ((names.filter fun s => isS s x).map .str)) (.list [])) else none) = _
      rw [h1, h2]
      rfl
    unfold neC
    rw [eqC_dd, e3]
    simp
  simp [F_in, defF_ap, g_in, hl2, e]
  simp [e2]
end Z

/-! P8: deeds and scripts by form. -/
namespace Z
open PySem PySem.Spec PyProof.Rows L2
theorem lcL_mapG {α : Type} {inj g : α → PyData} {tg : TGF} {f : EF} {Γ : GS} {M : MS} : ∀ {xs : List α}, (∀ x ∈ xs, ∃ Γ1, tg (.d (inj x)) Γ M = some (Γ1, M) ∧ f Γ1 M = .ok (.d (g x)) M) → lcL tg yesT f Γ (xs.map inj) M = .ok ((xs.map g).map .d) M
  | [], _ => rfl
  | x :: xs, h => by
    have ih := lcL_mapG (xs := xs) fun y hy => h y (List.mem_cons_of_mem _ hy)
    obtain ⟨Γ1, e1, e2⟩ := h x List.mem_cons_self
    rw [List.map_cons]
    simp only [lcL, e1, yesT_ap, e2, ih]
    rfl
theorem lcL_filterG {α : Type} {inj g : α → PyData} {tg : TGF} {t : TF} {f : EF} {p : α → Bool} {Γ : GS} {M : MS} : ∀ {xs : List α}, (∀ x ∈ xs, ∃ Γ1, tg (.d (inj x)) Γ M = some (Γ1, M) ∧ t Γ1 M = .ok (p x) M ∧ (p x = true → f Γ1 M = .ok (.d (g x)) M)) → lcL tg t f Γ (xs.map inj) M = .ok (((xs.filter p).map g).map .d) M
  | [], _ => rfl
  | x :: xs, h => by
    have ih := lcL_filterG (xs := xs) fun y hy => h y (List.mem_cons_of_mem _ hy)
    obtain ⟨Γ1, e1, e2, e3⟩ := h x List.mem_cons_self
    rw [List.map_cons]
    cases hp : p x with
    | true =>
      simp only [lcL, e1, e2, e3 hp, ih, hp, List.filter_cons_of_pos]
      rfl
    | false =>
      simp only [lcL, e1, e2, ih, hp]
      rw [List.filter_cons_of_neg (by simp [hp])]
theorem plain_menu : ∀ s ∈ menu, Plain (.str s) := fun s h => by
  refine plain_of (mild_name h) (by decide) (by decide) ?_
  have : (menu.all fun s => PyData.canLay0 (.str s)) = true := by decide +kernel
  exact List.all_eq_true.mp this s h
theorem plain_house {h : List HRow} (ok : HouseOk h) : ∀ s ∈ sorts h, Plain (.str s) := fun s hs => by
  obtain ⟨r, hr, rfl⟩ := List.mem_map.mp hs
  exact plain_menu _ (ok.mem r hr)
def inN (names : List Str) (x : PyData) : Bool := names.any fun s => isS s x
def isI : PyData → Bool
  | .int _ => true
  | _ => false
theorem is_integer_ok {x : PyData} (h : Leaf x) (M : MS) : F_p_is_integer [.d x] M = .ok (.d (.bool (isI x))) M := by
  cases h <;> simp [F_p_is_integer, defF_ap, g_p_is_integer, isI, isTy, tyD]
theorem lay_strs {names : List Str} (hn : ∀ s ∈ names, Plain (.str s)) : PyData.canLayAll0 (names.map .str) = true := by
  induction names with
  | nil => rfl
  | cons s l ih =>
    rw [List.map_cons, PyData.canLayAll0, SeqAt.canLay_of_shaped (hn s List.mem_cons_self).sh, ih fun t ht => hn t (List.mem_cons_of_mem _ ht)]
    rfl
theorem is_sort_name_ok {h : List HRow} (ok : HouseOk h) {x : PyData} (hx : Leaf x) (M : MS) : F_p_is_sort_name [.d (houseD h), .d x] M = .ok (.d (.bool (inN (sorts h) x))) M := by
  have hl : h.length ≤ 9 := ok.n1
  have hl2 : h.length < 16777216 := by omega
  have e := lcL_mapG (tg := tupG 3 (consG (nmG 2) (consG (nmG 3) (consG (nmG 4) nilG)))) (f := e_p_is_sort_name_1) (Γ := [some (.d (houseD h)), some (.d x), none, none, none]) (M := M) (inj := rowD) (g := fun r => PyData.str r.name) (xs := h) (fun r _ => ⟨_, rfl, rfl⟩)
  have e1 : h.map (fun r => PyData.str r.name) = (sorts h).map .str := by unfold sorts; rw [List.map_map]; rfl
  rw [e1] at e
  have key : ∀ x, (∀ t, x ≠ .str t) → isTy (tyD x) "str" = false → F_p_is_sort_name [.d (houseD h), .d x] M = .ok (.d (.bool (inN (sorts h) x))) M := fun x h3 h4 => by
    have : inN (sorts h) x = false := by
      unfold inN
      rw [List.any_eq_false]
      intro s hs
      rw [isS_no h3]
      exact Bool.false_ne_true
    simp [F_p_is_sort_name, defF_ap, g_p_is_sort_name, h4, this]
  cases hx with
  | non => exact key _ (by simp) rfl
  | bl b => exact key _ (by simp) rfl
  | int i => exact key _ (by simp) rfl
  | nil => exact key _ (by simp) rfl
  | emp => exact key _ (by simp) rfl
  | tup xs hx => exact key _ (by simp) rfl
  | str t ht =>
    have e2 : inC (.d (.str t)) (.d (.list ((sorts h).map .str))) M = some (inN (sorts h) (.str t)) := by
      show (if SeqAt.shaped (.str t) && PyData.canLayAll0 ((sorts h).map .str) then some (((sorts h).map PyData.str).any fun z => PyData.eqv z (.str t)) else none) = _
      rw [ht.sh, lay_strs (plain_house ok)]
      simp only [Bool.and_self, if_true, List.any_map]
      congr 1
      unfold inN
      congr 1
      funext s
      show PyData.eqv (.str s) (.str t) = decide (t = s)
      rw [PyData.eqv]
      by_cases q : s = t
      · subst q; simp
      · have : ¬ t = s := fun z => q z.symm
        simp [q, this]
    have e3 : isTy (tyD (.str t)) "str" = true := rfl
    simp only [List.map_map] at e e2
    simp [F_p_is_sort_name, defF_ap, g_p_is_sort_name, e3, hl2, e, e2]
/-- whether a value is a deed -/
def isDeed (names : List Str) : PyData → Bool
  | .tuple (.str w :: a :: y :: r) => inN names a &&
      if w = "merge" then r.isEmpty && (inN names y && !decide (unS y = unS a))
      else isI y && (if w = "come" then r.isEmpty else if w = "move" then (match y, r with
        | .int k, [z] => decide (0 < k) && (inN names z && !decide (unS z = unS a))
        | _, _ => false) else r.isEmpty && (match y with
        | .int k => (decide (w = "go") && decide (0 < k)) || (decide (w = "keep") && decide (0 ≤ k))
        | _ => false))
  | _ => false
theorem isDeed_a {names : List Str} {w a y : PyData} {r : List PyData} (h : inN names a = false) : isDeed names (.tuple (w :: a :: y :: r)) = false := by
  unfold isDeed
  split
  · rename_i e
    injection e with e
    injection e with e1 e2
    injection e2 with e2 e3
    subst e2
    rw [h]; rfl
  · rfl
theorem inN_str {names : List Str} {a : PyData} (h : inN names a = true) : ∃ s ∈ names, a = .str s := by
  unfold inN at h
  obtain ⟨s, hs, e⟩ := List.any_eq_true.mp h
  cases a <;> first | (cases e; done) | skip
  rename_i t
  exact ⟨s, hs, by rw [isS_str] at e; rw [of_decide_eq_true e]⟩
theorem isI_int {y : PyData} (h : isI y = true) : ∃ k, y = .int k := by
  cases y <;> first | (cases h; done) | skip
  exact ⟨_, rfl⟩
theorem p_is_deed_ok {h : List HRow} (ok : HouseOk h) {ws : List PyData} (hw : ∀ z ∈ ws, Leaf z) (M : MS) : F_p_is_deed [.d (houseD h), .d (.tuple ws)] M = .ok (.d (.bool (isDeed (sorts h) (.tuple ws)))) M := by
  have tt : ∀ ds, isTy (tyD (.tuple ds)) "tuple" = true := fun _ => rfl
  match ws, hw with
  | [], _ => simp [F_p_is_deed, defF_ap, g_p_is_deed, isDeed, tt]
  | [w], _ => simp [F_p_is_deed, defF_ap, g_p_is_deed, isDeed, tt]
  | [w, a], _ => simp [F_p_is_deed, defF_ap, g_p_is_deed, isDeed, tt]
  | w :: a :: y :: r, hw =>
    have lw := hw w (by simp)
    have la := hw a (by simp)
    have ly := hw y (by simp)
    have n3 : ¬ ((r.length : Int) + 1 + 1 + 1 < 3) := by omega
    have ea := fun M => is_sort_name_ok ok la M
    have ey := fun M => is_sort_name_ok ok ly M
    have ei := fun M => is_integer_ok ly M
    have key : (∀ t, w ≠ .str t) → isTy (tyD w) "str" = false → F_p_is_deed [.d (houseD h), .d (.tuple (w :: a :: y :: r))] M = .ok (.d (.bool (isDeed (sorts h) (.tuple (w :: a :: y :: r))))) M := fun h3 h4 => by
      have : isDeed (sorts h) (.tuple (w :: a :: y :: r)) = false := by
        unfold isDeed
        split
        · rename_i e
          injection e with e
          injection e with e1 e2
          exact absurd e1 (h3 _)
        · rfl
      rw [this]
      simp [F_p_is_deed, defF_ap, g_p_is_deed, tt, n3, h4]
    cases lw with
    | non => exact key (by simp) rfl
    | bl b => exact key (by simp) rfl
    | int i => exact key (by simp) rfl
    | nil => exact key (by simp) rfl
    | emp => exact key (by simp) rfl
    | tup xs hx => exact key (by simp) rfl
    | str w hs =>
      have ts : isTy (tyD (.str w)) "str" = true := rfl
      cases hA : inN (sorts h) a with
      | false =>
        rw [isDeed_a hA]
        simp [F_p_is_deed, defF_ap, g_p_is_deed, tt, n3, ts, ea, hA]
      | true =>
        obtain ⟨sa, ma, rfl⟩ := inN_str hA
        by_cases c1 : w = "merge"
        · subst c1
          cases r with
          | nil =>
            cases hY : inN (sorts h) y with
            | false => simp [F_p_is_deed, defF_ap, g_p_is_deed, tt, ts, ea, ey, hA, hY, isDeed]
            | true =>
              obtain ⟨sy, my, rfl⟩ := inN_str hY
              simp [F_p_is_deed, defF_ap, g_p_is_deed, tt, ts, ea, ey, hA, hY, isDeed, unS]
              exact decide_eq_decide.mpr Iff.rfl
          | cons z r =>
            have n4 : ¬ ((r.length : Int) + 1 + 1 + 1 + 1 < 3) := by omega
            have n5 : ¬ ((r.length : Int) + 1 + 1 + 1 + 1 = 3) := by omega
            simp [F_p_is_deed, defF_ap, g_p_is_deed, tt, ts, ea, ey, hA, isDeed, unS, n4, n5]
        · cases hI : isI y with
          | false => simp [F_p_is_deed, defF_ap, g_p_is_deed, tt, n3, ts, ea, ei, hA, isDeed, c1, hI]
          | true =>
            obtain ⟨k, rfl⟩ := isI_int hI
            have n6 : ((r.length : Int) + 1 + 1 + 1 = 3) ↔ r = [] := by rw [← List.length_eq_zero_iff]; omega
            by_cases c2 : w = "come"
            · subst c2
              cases r with
              | nil => simp [F_p_is_deed, defF_ap, g_p_is_deed, tt, ts, ea, ei, hA, isDeed, hI]
              | cons z r =>
                have n4 : ¬ ((r.length : Int) + 1 + 1 + 1 + 1 < 3) := by omega
                have n5 : ¬ ((r.length : Int) + 1 + 1 + 1 + 1 = 3) := by omega
                simp [F_p_is_deed, defF_ap, g_p_is_deed, tt, ts, ea, ei, hA, isDeed, hI, n4, n5]
            by_cases c3 : w = "move"
            · subst c3
              match r, hw with
              | [], _ => simp [F_p_is_deed, defF_ap, g_p_is_deed, tt, ts, ea, ei, hA, isDeed, hI]
              | [z], hw =>
                have ez := fun M => is_sort_name_ok ok (hw z (by simp)) M
                by_cases kp : 0 < k
                · cases hZ : inN (sorts h) z with
                  | false => simp [F_p_is_deed, defF_ap, g_p_is_deed, tt, ts, ea, ei, ez, hA, isDeed, hI, hZ, kp]
                  | true =>
                    obtain ⟨sz, mz, rfl⟩ := inN_str hZ
                    simp [F_p_is_deed, defF_ap, g_p_is_deed, tt, ts, ea, ei, ez, hA, isDeed, hI, hZ, kp, unS]
                    exact decide_eq_decide.mpr Iff.rfl
                · simp [F_p_is_deed, defF_ap, g_p_is_deed, tt, ts, ea, ei, ez, hA, isDeed, hI, kp]
              | z :: z2 :: r, hw =>
                have n4 : ¬ ((r.length : Int) + 1 + 1 + 1 + 1 + 1 < 3) := by omega
                have n5 : ¬ ((r.length : Int) + 1 + 1 + 1 + 1 + 1 = 4) := by omega
                simp [F_p_is_deed, defF_ap, g_p_is_deed, tt, ts, ea, ei, hA, isDeed, hI, n4, n5]
            cases r with
            | cons z r =>
              have n4 : ¬ ((r.length : Int) + 1 + 1 + 1 + 1 < 3) := by omega
              have n5 : ¬ ((r.length : Int) + 1 + 1 + 1 + 1 = 3) := by omega
              simp [F_p_is_deed, defF_ap, g_p_is_deed, tt, ts, ea, ei, hA, isDeed, hI, c1, c2, c3, n4, n5]
            | nil =>
              by_cases c4 : w = "go"
              · subst c4
                by_cases kp : 0 < k
                · simp [F_p_is_deed, defF_ap, g_p_is_deed, tt, ts, ea, ei, hA, isDeed, hI, kp]
                · simp [F_p_is_deed, defF_ap, g_p_is_deed, tt, ts, ea, ei, hA, isDeed, hI, kp]
              · by_cases c5 : w = "keep"
                · subst c5
                  simp [F_p_is_deed, defF_ap, g_p_is_deed, tt, ts, ea, ei, hA, isDeed, hI]
                · simp [F_p_is_deed, defF_ap, g_p_is_deed, tt, ts, ea, ei, hA, isDeed, hI, c1, c2, c3, c4, c5]
def leI (n : Int) : PyData → Bool
  | .int k => decide (n ≤ k)
  | _ => false
theorem is_whole_ok {x : PyData} (h : Leaf x) (l : PyData) (n : Int) (hl : isI x = true → l = .int n) (M : MS) : F_is_whole [.d x, .d l] M = .ok (.d (.bool (leI n x))) M := by
  cases h with
  | int i => obtain rfl := hl rfl; simp [F_is_whole, defF_ap, g_is_whole, isTy, tyD, leI]
  | non => simp [F_is_whole, defF_ap, g_is_whole, isTy, tyD, leI]
  | bl b => simp [F_is_whole, defF_ap, g_is_whole, isTy, tyD, leI]
  | str b => simp [F_is_whole, defF_ap, g_is_whole, isTy, tyD, leI]
  | nil => simp [F_is_whole, defF_ap, g_is_whole, isTy, tyD, leI]
  | emp => simp [F_is_whole, defF_ap, g_is_whole, isTy, tyD, leI]
  | tup xs hx => simp [F_is_whole, defF_ap, g_is_whole, isTy, tyD, leI]
theorem plain_words : ∀ s ∈ words, Plain (.str s) := fun s h => by
  refine plain_of (mild_word h) (by decide) (by decide) ?_
  have : (words.all fun s => PyData.canLay0 (.str s)) = true := by decide +kernel
  exact List.all_eq_true.mp this s h
theorem is_deed_ok {h : List HRow} (ok : HouseOk h) {ws : List PyData} (hw : ∀ z ∈ ws, Leaf z) (hw0 : ∀ z, ws[0]? = some z → z ≠ .dict []) (M : MS) : F_is_deed [.d (houseD h), .d (.tuple ws)] M = .ok (.d (.bool (isDeed (sorts h) (.tuple ws)))) M := by
  have tt : ∀ ds, isTy (tyD (.tuple ds)) "tuple" = true := fun _ => rfl
  have hl : h.length ≤ 9 := ok.n1
  have hl2 : h.length < 16777216 := by omega
  have hl3 : (sorts h).length < 1000 := by rw [sorts, List.length_map]; omega
  have e0 : ∀ (o : Option W) (M : MS), lcL (nmG 3) yesT e_is_deed_1 [some (.d (houseD h)), o, none, none] (h.map rowD) M = .ok ((h.map fun r => PyData.str r.name).map .d) M := fun o M => lcL_map (inj := rowD) (g := fun r => PyData.str r.name) fun r hr => rfl
  have e1 : h.map (fun r => PyData.str r.name) = (sorts h).map .str := by unfold sorts; rw [List.map_map]; rfl
  rw [e1] at e0
  have ha : ∀ {x : PyData}, Leaf x → ∀ M, F_in [.d (.list ((sorts h).map .str)), .d x] M = .ok (.d (.bool (inN (sorts h) x))) M := fun hx M => in_leaf (plain_house ok) hl3 hx M
  match ws, hw, hw0 with
  | [], _, _ => simp [F_is_deed, defF_ap, g_is_deed, isDeed, tt, hl2, e0]
  | [w], _, _ => simp [F_is_deed, defF_ap, g_is_deed, isDeed, tt, hl2, e0]
  | [w, a], _, _ => simp [F_is_deed, defF_ap, g_is_deed, isDeed, tt, hl2, e0]
  | w :: a :: y :: r, hw, hw0 =>
    have lw := hw w (by simp)
    have la := hw a (by simp)
    have ly := hw y (by simp)
    have n0 : w ≠ .dict [] := hw0 w rfl
    have n3 : ¬ ((r.length : Int) + 1 + 1 + 1 < 3) := by omega
    have ea := ha la
    have ey := ha ly
    have aw : ∀ s ∈ words, ∀ M, F_alike [.d w, .d (.str s)] M = .ok (.d (.bool (isS s w))) M := fun s hs M => str_alike (plain_words s hs) lw n0 M
    have a1 := aw "come" (by decide)
    have a2 := aw "go" (by decide)
    have a3 := aw "keep" (by decide)
    have a4 := aw "merge" (by decide)
    have a5 := aw "move" (by decide)
    simp only [List.map_map] at e0 ea ey
    cases hA : inN (sorts h) a with
    | false =>
      rw [isDeed_a hA]
      simp [F_is_deed, defF_ap, g_is_deed, tt, hl2, e0, n3, ea, hA]
    | true =>
      obtain ⟨sa, ma, rfl⟩ := inN_str hA
      have key : (∀ t, w ≠ .str t) → F_is_deed [.d (houseD h), .d (.tuple (w :: .str sa :: y :: r))] M = .ok (.d (.bool (isDeed (sorts h) (.tuple (w :: .str sa :: y :: r))))) M := fun h3 => by
        have : isDeed (sorts h) (.tuple (w :: .str sa :: y :: r)) = false := by
          unfold isDeed
          split
          · rename_i e
            injection e with e
            injection e with e1 e2
            exact absurd e1 (h3 _)
          · rfl
        rw [this]
        simp [F_is_deed, defF_ap, g_is_deed, tt, hl2, e0, n3, ea, hA, a1, a2, a3, a4, a5, isS_no h3]
      cases lw with
      | non => exact key (by simp)
      | bl b => exact key (by simp)
      | int i => exact key (by simp)
      | nil => exact key (by simp)
      | emp => exact absurd rfl n0
      | tup xs hx => exact key (by simp)
      | str w hs =>
        have iw : ∀ (n : Int) (M : MS), F_is_whole [.d y, .d (.int n)] M = .ok (.d (.bool (leI n y))) M := fun n M => is_whole_ok ly (.int n) n (fun _ => rfl) M
        by_cases c1 : w = "merge"
        · subst c1
          cases r with
          | nil =>
            cases hY : inN (sorts h) y with
            | false => simp [F_is_deed, defF_ap, g_is_deed, tt, hl2, e0, a1, a2, a3, a4, a5, ea, ey, hA, hY, isDeed]
            | true =>
              obtain ⟨sy, my, rfl⟩ := inN_str hY
              simp [F_is_deed, defF_ap, g_is_deed, tt, hl2, e0, a1, a2, a3, a4, a5, ea, ey, hA, hY, isDeed, unS]
              exact decide_eq_decide.mpr Iff.rfl
          | cons z r =>
            have n4 : ¬ ((r.length : Int) + 1 + 1 + 1 + 1 < 3) := by omega
            have n5 : ¬ ((r.length : Int) + 1 + 1 + 1 + 1 = 3) := by omega
            simp [F_is_deed, defF_ap, g_is_deed, tt, hl2, e0, a1, a2, a3, a4, a5, ea, hA, isDeed, unS, n4, n5]
        by_cases c2 : w = "come"
        · subst c2
          cases r with
          | cons z r =>
            have n4 : ¬ ((r.length : Int) + 1 + 1 + 1 + 1 < 3) := by omega
            have n5 : ¬ ((r.length : Int) + 1 + 1 + 1 + 1 = 3) := by omega
            simp [F_is_deed, defF_ap, g_is_deed, tt, hl2, e0, a1, a2, a3, a4, a5, ea, hA, isDeed, n4, n5]
          | nil =>
            cases ly with
            | int k =>
              have iw2 := fun M => is_whole_ok (.int k) (.int k) k (fun _ => rfl) M
              simp [F_is_deed, defF_ap, g_is_deed, tt, hl2, e0, a1, a2, a3, a4, a5, ea, hA, isDeed, isI, isTy, tyD, iw2, leI]
            | bl b =>
              have iw2 := fun M => is_whole_ok (.bl b) (.bool b) 0 (fun z => by cases z) M
              simp [F_is_deed, defF_ap, g_is_deed, tt, hl2, e0, a1, a2, a3, a4, a5, ea, hA, isDeed, isI, isTy, tyD, iw2, leI]
            | non => simp [F_is_deed, defF_ap, g_is_deed, tt, hl2, e0, a1, a2, a3, a4, a5, ea, hA, isDeed, isI, isTy, tyD, iw, leI]
            | str s hs => simp [F_is_deed, defF_ap, g_is_deed, tt, hl2, e0, a1, a2, a3, a4, a5, ea, hA, isDeed, isI, isTy, tyD, iw, leI]
            | nil => simp [F_is_deed, defF_ap, g_is_deed, tt, hl2, e0, a1, a2, a3, a4, a5, ea, hA, isDeed, isI, isTy, tyD, iw, leI]
            | tup xs hx => simp [F_is_deed, defF_ap, g_is_deed, tt, hl2, e0, a1, a2, a3, a4, a5, ea, hA, isDeed, isI, isTy, tyD, iw, leI]
            | emp => simp [F_is_deed, defF_ap, g_is_deed, tt, hl2, e0, a1, a2, a3, a4, a5, ea, hA, isDeed, isI, isTy, tyD, iw, leI]
        by_cases c3 : w = "move"
        · subst c3
          match r, hw with
          | [], _ => simp [F_is_deed, defF_ap, g_is_deed, tt, hl2, e0, a1, a2, a3, a4, a5, ea, hA, isDeed]
          | [z], hw =>
            have ez := ha (hw z (by simp))
            cases hI : isI y with
            | false =>
              have : leI 1 y = false := by
                cases y <;> first | rfl | cases hI
              simp [F_is_deed, defF_ap, g_is_deed, tt, hl2, e0, a1, a2, a3, a4, a5, ea, hA, isDeed, hI, iw, this]
            | true =>
              obtain ⟨k, rfl⟩ := isI_int hI
              by_cases kp : 0 < k
              · have kp1 : 1 ≤ k := by omega
                cases hZ : inN (sorts h) z with
                | false => simp [F_is_deed, defF_ap, g_is_deed, tt, hl2, e0, a1, a2, a3, a4, a5, ea, ez, hA, isDeed, hI, iw, leI, hZ, kp, kp1]
                | true =>
                  obtain ⟨sz, mz, rfl⟩ := inN_str hZ
                  simp [F_is_deed, defF_ap, g_is_deed, tt, hl2, e0, a1, a2, a3, a4, a5, ea, ez, hA, isDeed, hI, iw, leI, hZ, kp, kp1, unS]
                  exact decide_eq_decide.mpr Iff.rfl
              · have kp1 : ¬ 1 ≤ k := by omega
                simp [F_is_deed, defF_ap, g_is_deed, tt, hl2, e0, a1, a2, a3, a4, a5, ea, ez, hA, isDeed, hI, iw, leI, kp, kp1]
          | z :: z2 :: r, hw =>
            have n4 : ¬ ((r.length : Int) + 1 + 1 + 1 + 1 + 1 < 3) := by omega
            have n5 : ¬ ((r.length : Int) + 1 + 1 + 1 + 1 + 1 = 4) := by omega
            simp [F_is_deed, defF_ap, g_is_deed, tt, hl2, e0, a1, a2, a3, a4, a5, ea, hA, isDeed, n4, n5]
        by_cases c4 : w = "go"
        · subst c4
          cases r with
          | cons z r =>
            have n4 : ¬ ((r.length : Int) + 1 + 1 + 1 + 1 < 3) := by omega
            have n5 : ¬ ((r.length : Int) + 1 + 1 + 1 + 1 = 3) := by omega
            simp [F_is_deed, defF_ap, g_is_deed, tt, hl2, e0, a1, a2, a3, a4, a5, ea, hA, isDeed, n4, n5]
          | nil =>
            cases y <;> simp [F_is_deed, defF_ap, g_is_deed, tt, hl2, e0, a1, a2, a3, a4, a5, ea, hA, isDeed, isI, iw, leI]
            omega
        by_cases c5 : w = "keep"
        · subst c5
          cases r with
          | cons z r =>
            have n4 : ¬ ((r.length : Int) + 1 + 1 + 1 + 1 < 3) := by omega
            have n5 : ¬ ((r.length : Int) + 1 + 1 + 1 + 1 = 3) := by omega
            simp [F_is_deed, defF_ap, g_is_deed, tt, hl2, e0, a1, a2, a3, a4, a5, ea, hA, isDeed, n4, n5]
          | nil =>
            cases y <;> simp [F_is_deed, defF_ap, g_is_deed, tt, hl2, e0, a1, a2, a3, a4, a5, ea, hA, isDeed, isI, iw, leI]
        · have : isDeed (sorts h) (.tuple (.str w :: .str sa :: y :: r)) = false := by
            unfold isDeed
            simp only [c1, c2, c3, if_false]
            cases y <;> simp [c4, c5, isI]
          rw [this]
          simp [F_is_deed, defF_ap, g_is_deed, tt, hl2, e0, n3, a1, a2, a3, a4, a5, ea, hA, c1, c2, c3, c4, c5]
end Z

/-! P9: things near deeds; are they judged. -/
namespace Z
open PySem PySem.Spec PyProof.Rows L2
def Tup (x : PyData) : Prop := ∃ ws, x = .tuple ws ∧ (∀ z ∈ ws, Leaf z) ∧ ∀ z, ws[0]? = some z → z ≠ .dict []
def Thing (x : PyData) : Prop := Tup x ∨ isTy (tyD x) "tuple" = false
theorem not_tup {names : List Str} {x : PyData} (h : isTy (tyD x) "tuple" = false) : isDeed names x = false := by
  cases x <;> first | rfl | cases h
theorem p_is_deed_th {h : List HRow} (ok : HouseOk h) {x : PyData} (hx : Thing x) (M : MS) : F_p_is_deed [.d (houseD h), .d x] M = .ok (.d (.bool (isDeed (sorts h) x))) M := by
  rcases hx with ⟨ws, rfl, h1, h2⟩ | hx
  · exact p_is_deed_ok ok h1 M
  · rw [not_tup hx]
    simp [F_p_is_deed, defF_ap, g_p_is_deed, hx]
theorem is_deed_th {h : List HRow} (ok : HouseOk h) {x : PyData} (hx : Thing x) (M : MS) : F_is_deed [.d (houseD h), .d x] M = .ok (.d (.bool (isDeed (sorts h) x))) M := by
  rcases hx with ⟨ws, rfl, h1, h2⟩ | hx
  · exact is_deed_ok ok h1 h2 M
  · rw [not_tup hx]
    have hl : h.length ≤ 9 := ok.n1
    have hl2 : h.length < 16777216 := by omega
    have e0 : ∀ (o : Option W) (M : MS), lcL (nmG 3) yesT e_is_deed_1 [some (.d (houseD h)), o, none, none] (h.map rowD) M = .ok ((h.map fun r => PyData.str r.name).map .d) M := fun o M => lcL_map (inj := rowD) (g := fun r => PyData.str r.name) fun r hr => rfl
    simp only [List.map_map] at e0
    simp [F_is_deed, defF_ap, g_is_deed, hx, hl2, e0]
theorem tup_of {ws : List PyData} (h : ∀ z ∈ ws, Leaf z) (h0 : ∀ z, ws[0]? = some z → z ≠ .dict []) : Thing (.tuple ws) := .inl ⟨ws, rfl, h, h0⟩
theorem plain_text {ss : List Str} (h : (ss.all fun s => s.cps.toList.all (fun c => decide (c < 16 ^ 8)) && decide (s.cps.size ≤ 8)) = true) (h2 : (ss.all fun s => PyData.canLay0 (.str s)) = true) {s : Str} (hs : s ∈ ss) : Plain (.str s) :=
  plain_of (mild_text h hs) (by decide) (by decide) (List.all_eq_true.mp h2 s hs)
def odds : List Str := ["none", "1", "stay", "go", "come", "keep", "move", "merge"]
theorem plain_odd : ∀ s ∈ odds, Plain (.str s) := fun s h => plain_text (by decide +kernel) (by decide +kernel) h
theorem leaf_odd {s : Str} (h : s ∈ odds) : Leaf (.str s) := .str s (plain_odd s h)
theorem atI_neg1 {α : Type} {x : α} {xs : List α} : atI (xs ++ [x]) (-1) = some x := by
  unfold atI ixN
  have h : (1 : Int) ≤ xs.length + 1 := by omega
  have h2 : (-1 + ((xs.length : Int) + 1)).toNat = xs.length := by omega
  simp [h, h2]
/-- a tuple of three or four parts, none of them odd -/
structure Near (ws : List PyData) : Prop where
  lf : ∀ z ∈ ws, Leaf z
  hd : ∀ z, ws[0]? = some z → z ≠ .dict []
  ln : ws.length = 3 ∨ ws.length = 4
theorem other_deed_ok {b : Bag} (gb : b.Good) {h : List HRow} (ok : HouseOk h) {ws : List PyData} (nw : Near ws) : ∃ (x : PyData) (b' : Bag), b'.Good ∧ Thing x ∧ ∀ R : MS, F_other_deed [.m 0, .d (houseD h), .d (.tuple ws)] (bagO b :: R) = .ok (.d x) (bagO b' :: R) := by
  have hl : h.length ≤ 9 := ok.n1
  have hl2 : h.length < 16777216 := by omega
  obtain ⟨r0, rest, rfl⟩ : ∃ r rest, h = r :: rest := by
    cases h with
    | nil => exact absurd rfl ok.n0
    | cons r t => exact ⟨r, t, rfl⟩
  obtain ⟨rl, hrl, eL⟩ : ∃ r ∈ (r0 :: rest), atI ((r0 :: rest).map fun r => PyData.str r.name) (-1) = some (.str r.name) := by
    have ne : (r0 :: rest) ≠ [] := by simp
    refine ⟨(r0 :: rest).getLast ne, List.getLast_mem ne, ?_⟩
    conv => lhs; rw [← List.dropLast_concat_getLast ne]
    rw [List.map_append]
    exact atI_neg1
  have e0 : ∀ (o1 : Option W) (M : MS), lcL (nmG 4) yesT e_other_deed_1 [some (.m 0), some (.d (houseD (r0 :: rest))), o1, none, none, none, none] ((r0 :: rest).map rowD) M = .ok (((r0 :: rest).map fun r => PyData.str r.name).map .d) M := fun o1 M => lcL_map (inj := rowD) (g := fun r => PyData.str r.name) fun r hr => rfl
  have l0 : Leaf (.str r0.name) := .str _ (plain_menu _ (ok.mem r0 List.mem_cons_self))
  have lL : Leaf (.str rl.name) := .str _ (plain_menu _ (ok.mem rl hrl))
  simp only [List.map_cons] at e0 eL
  have hl3 : rest.length + 1 < 16777216 := by simpa using hl2
  obtain ⟨lf, hd, ln⟩ := nw
  match ws, ln, lf, hd with
  | [w, a, y], _, lf, hd =>
    have lw := lf w (by simp)
    have la := lf a (by simp)
    have ly := lf y (by simp)
    have n0 : w ≠ .dict [] := hd w rfl
    have c1 : cutD [w, a, y] (some (-1)) none = [y] := rfl
    have c2 : cutD [w, a, y] none (some 2) = [w, a] := rfl
    have c3 : cutD [w, a, y] (some 3) none = [] := rfl
    have c4 : cutD [w, a, y] none (some 1) = [w] := rfl
    have c5 : cutD [w, a, y] (some 2) none = [y] := rfl
    have e2 : ∀ o3 o5 M, lcL (nmG 6) yesT e_other_deed_2 [some (.m 0), some (.d (houseD (r0 :: rest))), some (.d (.tuple [w, a, y])), o3, none, o5, none] [.bool true, .int 0, .int (-1)] M = .ok [.d (.tuple [w, a, .bool true]), .d (.tuple [w, a, .int 0]), .d (.tuple [w, a, .int (-1)])] M := fun o3 o5 M => by
      simp [lcL, e_other_deed_2_ap, c2, c3]
    have hT : ∀ x ∈ ([.none, .tuple [], .tuple [w, a], .tuple [w, a, y, y], .list [w, a, y], .tuple [w, .str "none", y], .tuple [w, a, .none], .tuple [w, a, .bool true], .tuple [w, a, .int 0], .tuple [w, a, .int (-1)], .tuple [w, a, .int 100000000000000000000000000000000000], .tuple [.str "come", .str r0.name, .int 100000000000000000000000000000000000000], .tuple [.str "go", .str r0.name, .int 0], .tuple [.str "keep", .str r0.name, .int 0], .tuple [.str "move", .str r0.name, .int 1, .str r0.name], .tuple [.str "merge", .str r0.name, .str r0.name], .tuple [.str "merge", .str r0.name, .str rl.name], .tuple [.str "come", .str r0.name, .str "1"], .tuple [.str "stay", .str r0.name, .int 1], .tuple [.str "move", .str r0.name, .int 1, .str rl.name], .tuple [w, .list [], .int 1], .tuple [.list [], .str r0.name, .int 1], .tuple [w, .str r0.name, .dict []], .str "go", .int 0, .dict [], .tuple [.str "move", .str r0.name, .int 1, .none], .tuple [.str "merge", .str r0.name, .bool true], .tuple [.str "keep", .str rl.name, .bool false], .tuple [.str "go", .str r0.name, .int 99]] : List PyData), Thing x := by
      repeat refine List.forall_mem_cons.mpr ⟨by
        first
        | exact .inr rfl
        | (refine tup_of ?_ ?_
           · repeat refine List.forall_mem_cons.mpr ⟨by first | assumption | exact .non | exact .bl _ | exact .int _ | exact .nil | exact .emp | exact leaf_odd (by decide), ?_⟩
             exact fun _ h => absurd h List.not_mem_nil
           · intro z hz
             cases hz <;> first | exact n0 | (intro e; cases e)), ?_⟩
      exact fun _ h => absurd h List.not_mem_nil
    obtain ⟨d, b', g', hd, e4⟩ := one_ok gb (ds := [.none, .tuple [], .tuple [w, a], .tuple [w, a, y, y], .list [w, a, y], .tuple [w, .str "none", y], .tuple [w, a, .none], .tuple [w, a, .bool true], .tuple [w, a, .int 0], .tuple [w, a, .int (-1)], .tuple [w, a, .int 100000000000000000000000000000000000], .tuple [.str "come", .str r0.name, .int 100000000000000000000000000000000000000], .tuple [.str "go", .str r0.name, .int 0], .tuple [.str "keep", .str r0.name, .int 0], .tuple [.str "move", .str r0.name, .int 1, .str r0.name], .tuple [.str "merge", .str r0.name, .str r0.name], .tuple [.str "merge", .str r0.name, .str rl.name], .tuple [.str "come", .str r0.name, .str "1"], .tuple [.str "stay", .str r0.name, .int 1], .tuple [.str "move", .str r0.name, .int 1, .str rl.name], .tuple [w, .list [], .int 1], .tuple [.list [], .str r0.name, .int 1], .tuple [w, .str r0.name, .dict []], .str "go", .int 0, .dict [], .tuple [.str "move", .str r0.name, .int 1, .none], .tuple [.str "merge", .str r0.name, .bool true], .tuple [.str "keep", .str rl.name, .bool false], .tuple [.str "go", .str r0.name, .int 99]]) (.inl rfl) (by simp) (by simp)
    exact ⟨d, b', g', hT d hd, fun R => by simp [F_other_deed, defF_ap, g_other_deed, e0, hl3, c1, c2, c3, c4, c5, e2, eL, e4, finD_bag0]⟩
  | [w, a, y, z], _, lf, hd =>
    have lw := lf w (by simp)
    have la := lf a (by simp)
    have ly := lf y (by simp)
    have lz := lf z (by simp)
    have n0 : w ≠ .dict [] := hd w rfl
    have c1 : cutD [w, a, y, z] (some (-1)) none = [z] := rfl
    have c2 : cutD [w, a, y, z] none (some 2) = [w, a] := rfl
    have c3 : cutD [w, a, y, z] (some 3) none = [z] := rfl
    have c4 : cutD [w, a, y, z] none (some 1) = [w] := rfl
    have c5 : cutD [w, a, y, z] (some 2) none = [y, z] := rfl
    have e2 : ∀ o3 o5 M, lcL (nmG 6) yesT e_other_deed_2 [some (.m 0), some (.d (houseD (r0 :: rest))), some (.d (.tuple [w, a, y, z])), o3, none, o5, none] [.bool true, .int 0, .int (-1)] M = .ok [.d (.tuple [w, a, .bool true, z]), .d (.tuple [w, a, .int 0, z]), .d (.tuple [w, a, .int (-1), z])] M := fun o3 o5 M => by
      simp [lcL, e_other_deed_2_ap, c2, c3]
    have hT : ∀ x ∈ ([.none, .tuple [], .tuple [w, a], .tuple [w, a, y, z, z], .list [w, a, y, z], .tuple [w, .str "none", y, z], .tuple [w, a, .none, z], .tuple [w, a, .bool true, z], .tuple [w, a, .int 0, z], .tuple [w, a, .int (-1), z], .tuple [w, a, .int 100000000000000000000000000000000000], .tuple [.str "come", .str r0.name, .int 100000000000000000000000000000000000000], .tuple [.str "go", .str r0.name, .int 0], .tuple [.str "keep", .str r0.name, .int 0], .tuple [.str "move", .str r0.name, .int 1, .str r0.name], .tuple [.str "merge", .str r0.name, .str r0.name], .tuple [.str "merge", .str r0.name, .str rl.name], .tuple [.str "come", .str r0.name, .str "1"], .tuple [.str "stay", .str r0.name, .int 1], .tuple [.str "move", .str r0.name, .int 1, .str rl.name], .tuple [w, .list [], .int 1], .tuple [.list [], .str r0.name, .int 1], .tuple [w, .str r0.name, .dict []], .str "go", .int 0, .dict [], .tuple [.str "move", .str r0.name, .int 1, .none], .tuple [.str "merge", .str r0.name, .bool true], .tuple [.str "keep", .str rl.name, .bool false], .tuple [.str "go", .str r0.name, .int 99]] : List PyData), Thing x := by
      repeat refine List.forall_mem_cons.mpr ⟨by
        first
        | exact .inr rfl
        | (refine tup_of ?_ ?_
           · repeat refine List.forall_mem_cons.mpr ⟨by first | assumption | exact .non | exact .bl _ | exact .int _ | exact .nil | exact .emp | exact leaf_odd (by decide), ?_⟩
             exact fun _ h => absurd h List.not_mem_nil
           · intro z hz
             cases hz <;> first | exact n0 | (intro e; cases e)), ?_⟩
      exact fun _ h => absurd h List.not_mem_nil
    obtain ⟨d, b', g', hd, e4⟩ := one_ok gb (ds := [.none, .tuple [], .tuple [w, a], .tuple [w, a, y, z, z], .list [w, a, y, z], .tuple [w, .str "none", y, z], .tuple [w, a, .none, z], .tuple [w, a, .bool true, z], .tuple [w, a, .int 0, z], .tuple [w, a, .int (-1), z], .tuple [w, a, .int 100000000000000000000000000000000000], .tuple [.str "come", .str r0.name, .int 100000000000000000000000000000000000000], .tuple [.str "go", .str r0.name, .int 0], .tuple [.str "keep", .str r0.name, .int 0], .tuple [.str "move", .str r0.name, .int 1, .str r0.name], .tuple [.str "merge", .str r0.name, .str r0.name], .tuple [.str "merge", .str r0.name, .str rl.name], .tuple [.str "come", .str r0.name, .str "1"], .tuple [.str "stay", .str r0.name, .int 1], .tuple [.str "move", .str r0.name, .int 1, .str rl.name], .tuple [w, .list [], .int 1], .tuple [.list [], .str r0.name, .int 1], .tuple [w, .str r0.name, .dict []], .str "go", .int 0, .dict [], .tuple [.str "move", .str r0.name, .int 1, .none], .tuple [.str "merge", .str r0.name, .bool true], .tuple [.str "keep", .str rl.name, .bool false], .tuple [.str "go", .str r0.name, .int 99]]) (.inl rfl) (by simp) (by simp)
    exact ⟨d, b', g', hT d hd, fun R => by simp [F_other_deed, defF_ap, g_other_deed, e0, hl3, c1, c2, c3, c4, c5, e2, eL, e4, finD_bag0]⟩
end Z

/-! P10: are deeds and scripts judged as due. -/
namespace Z
open PySem PySem.Spec PyProof.Rows L2
theorem forL_inv {tg : TGF} {body : SF} {Inv : GS → MS → Prop} : ∀ (ds : List PyData) {Γ : GS} {M : MS}, Inv Γ M →
    (∀ d ∈ ds, ∀ Γ M, Inv Γ M → ∃ Γ1 M1, tg (.d d) Γ M = some (Γ1, M1) ∧ ∃ Γ2 M2, (body Γ1 M1 = .nx Γ2 M2 ∨ body Γ1 M1 = .ct Γ2 M2) ∧ Inv Γ2 M2) →
    ∃ Γ' M', forL tg body ds Γ M = .nx Γ' M' ∧ Inv Γ' M'
  | [], Γ, M, h, _ => ⟨Γ, M, rfl, h⟩
  | d :: ds, Γ, M, h, k => by
    obtain ⟨Γ1, M1, e1, Γ2, M2, e2, i2⟩ := k d List.mem_cons_self Γ M h
    obtain ⟨Γ', M', e3, i3⟩ := forL_inv ds i2 fun d' h' => k d' (List.mem_cons_of_mem _ h')
    refine ⟨Γ', M', ?_, i3⟩
    rw [forL, e1]
    rcases e2 with e2 | e2
    · simp only [e2, e3]
    · simp only [e2, e3]
theorem deed_near {names : List Str} {pool : List Int} (hn : ∀ s ∈ names, s ∈ menu) {d : Deed} (ok : DeedOk names pool d) : ∃ ws, deedD d = .tuple ws ∧ Near ws ∧ PyData.canLay0 (.tuple ws) = true ∧ PyData.depth (.tuple ws) ≤ 4 := by
  have ln : ∀ {s}, s ∈ names → Leaf (.str s) := fun h => .str _ (plain_menu _ (hn _ h))
  have cl : ∀ {s}, s ∈ names → PyData.canLay0 (.str s) = true := fun h => SeqAt.canLay_of_shaped (plain_menu _ (hn _ h)).sh
  have lo : ∀ {s}, s ∈ odds → Leaf (.str s) := leaf_odd
  have co : ∀ {s}, s ∈ odds → PyData.canLay0 (.str s) = true := fun h => SeqAt.canLay_of_shaped (plain_odd _ h).sh
  have nr3 : ∀ {w a y : PyData}, Leaf w → Leaf a → Leaf y → w ≠ .dict [] → Near [w, a, y] := fun hw ha hy h0 => ⟨by simp; exact ⟨hw, ha, hy⟩, by intro z hz; cases hz; exact h0, .inl rfl⟩
  have nr4 : ∀ {w a y z : PyData}, Leaf w → Leaf a → Leaf y → Leaf z → w ≠ .dict [] → Near [w, a, y, z] := fun hw ha hy hz h0 => ⟨by simp; exact ⟨hw, ha, hy, hz⟩, by intro z hz; cases hz; exact h0, .inr rfl⟩
  cases d with
  | come a n => exact ⟨_, rfl, nr3 (lo (by decide)) (ln ok.1) (.int _) (by intro h; cases h), by simp [PyData.canLay0, PyData.canLayAll0, -PyData.canLay0.eq_4]; exact ⟨co (by decide), cl ok.1⟩, by simp [PyData.depth, PyData.depthAll]⟩
  | go a k => exact ⟨_, rfl, nr3 (lo (by decide)) (ln ok.1) (.int _) (by intro h; cases h), by simp [PyData.canLay0, PyData.canLayAll0, -PyData.canLay0.eq_4]; exact ⟨co (by decide), cl ok.1⟩, by simp [PyData.depth, PyData.depthAll]⟩
  | keep a k => exact ⟨_, rfl, nr3 (lo (by decide)) (ln ok.1) (.int _) (by intro h; cases h), by simp [PyData.canLay0, PyData.canLayAll0, -PyData.canLay0.eq_4]; exact ⟨co (by decide), cl ok.1⟩, by simp [PyData.depth, PyData.depthAll]⟩
  | move a k b => exact ⟨_, rfl, nr4 (lo (by decide)) (ln ok.1) (.int _) (ln ok.2.2.2.1) (by intro h; cases h), by simp [PyData.canLay0, PyData.canLayAll0, -PyData.canLay0.eq_4]; exact ⟨co (by decide), cl ok.1, cl ok.2.2.2.1⟩, by simp [PyData.depth, PyData.depthAll]⟩
  | merge a b => exact ⟨_, rfl, nr3 (lo (by decide)) (ln ok.1) (ln ok.2.1) (by intro h; cases h), by simp [PyData.canLay0, PyData.canLayAll0, -PyData.canLay0.eq_4]; exact ⟨co (by decide), cl ok.1, cl ok.2.1⟩, by simp [PyData.depth, PyData.depthAll]⟩
theorem Near.tup {ws : List PyData} (n : Near ws) : Thing (.tuple ws) := tup_of n.lf n.hd
theorem deed_thing {names : List Str} {pool : List Int} (hn : ∀ s ∈ names, s ∈ menu) {d : Deed} (ok : DeedOk names pool d) : Thing (deedD d) := by
  obtain ⟨ws, e, n, _, _⟩ := deed_near hn ok
  rw [e]; exact n.tup
theorem deed_leaf {names : List Str} {pool : List Int} (hn : ∀ s ∈ names, s ∈ menu) {d : Deed} (ok : DeedOk names pool d) : Leaf (deedD d) := by
  obtain ⟨ws, e, n, h1, h2⟩ := deed_near hn ok
  rw [e]; exact .tup _ (by unfold SeqAt.shaped; rw [h1]; simp; omega)
theorem script_thing {names : List Str} {pool : List Int} (hn : ∀ s ∈ names, s ∈ menu) {ds : List Deed} (ok : ∀ d ∈ ds, DeedOk names pool d) : Thing (scriptD ds) := by
  refine tup_of (fun z hz => ?_) fun z hz => ?_
  · obtain ⟨d, hd, rfl⟩ := List.mem_map.mp hz
    exact deed_leaf hn (ok d hd)
  · obtain ⟨d, hd, rfl⟩ := List.mem_map.mp (List.mem_of_getElem? hz)
    cases d <;> (intro h; cases h)
theorem bolsD_mapf {α : Type} {f : α → Bool} : ∀ xs : List α, bolsD (xs.map fun x => .bool (f x)) = some (xs.map f)
  | [] => rfl
  | x :: xs => by
    rw [List.map_cons, List.map_cons]
    show (bolsD (xs.map fun x => .bool (f x))).map (fun l => f x :: l) = _
    rw [bolsD_mapf xs]; rfl
@[simp] theorem all_l {ds : List PyData} {M : MS} : allV (.d (.list ds)) M = (bolsD ds).map fun bs => (.d (.bool (bs.all id)), M) := rfl
@[simp] theorem any_l {ds : List PyData} {M : MS} : anyV (.d (.list ds)) M = (bolsD ds).map fun bs => (.d (.bool (bs.any id)), M) := rfl
theorem is_script_tup {h : List HRow} (ok : HouseOk h) {ws : List PyData} (hw : ∀ z ∈ ws, Thing z) (hl : ws.length < 10000) (M : MS) : F_p_is_script [.d (houseD h), .d (.tuple ws)] M = .ok (.d (.bool (ws.all (isDeed (sorts h))))) M := by
  have tt : ∀ ds, isTy (tyD (.tuple ds)) "tuple" = true := fun _ => rfl
  have e := lcL_map (i := 2) (f := e_p_is_script_1) (Γ := [some (.d (houseD h)), some (.d (.tuple ws)), none]) (M := M) (inj := id) (g := fun x => PyData.bool (isDeed (sorts h) x)) (xs := ws) (fun x hx => by simp [e_p_is_script_1_ap, p_is_deed_th ok (hw x hx)])
  have hl2 : ws.length < 16777216 := by omega
  rw [List.map_id] at e
  have e2 := bolsD_mapf (f := isDeed (sorts h)) ws
  simp [F_p_is_script, defF_ap, g_p_is_script, tt, hl2, e, e2, List.all_map]
theorem is_script_no {h : List HRow} {x : PyData} (hx : isTy (tyD x) "tuple" = false) (M : MS) : F_p_is_script [.d (houseD h), .d x] M = .ok (.d (.bool false)) M := by
  simp [F_p_is_script, defF_ap, g_p_is_script, hx]
theorem nil_eq (xs : List PyData) (M : MS) : altC2 (eqC (.d (.list xs)) (.d (.list [])) M) eqXW (.d (.list xs)) (.d (.list [])) M = some xs.isEmpty := by
  cases xs with
  | nil => rfl
  | cons x xs =>
    rw [eqC_dd]
    have e : eqD (.list (x :: xs)) (.list []) = if SeqAt.shaped (.list (x :: xs)) && SeqAt.shaped (.list []) then some (PyData.eqv (.list (x :: xs)) (.list [])) else none := rfl
    rw [e]
    split
    · rfl
    · rfl
theorem judged2 {h : List HRow} (ok : HouseOk h) {x : PyData} (hx : (∃ ws, x = .tuple ws ∧ (∀ z ∈ ws, Thing z) ∧ ws.length < 10000) ∨ isTy (tyD x) "tuple" = false) {o0 o2 o3 o6 o7 o8 : Option W} (M : MS) :
    ∃ o8', b_are_judged_2 [o0, some (.d (houseD h)), o2, o3, none, some (.d x), o6, o7, o8] M = .nx [o0, some (.d (houseD h)), o2, o3, none, some (.d x), o6, o7, o8'] M := by
  rcases hx with ⟨ws, rfl, hw, hl⟩ | hx
  · have tt : ∀ ds, isTy (tyD (.tuple ds)) "tuple" = true := fun _ => rfl
    have hl2 : ws.length < 16777216 := by omega
    have e := lcL_filter (i := 4) (t := t_are_judged_1) (f := e_are_judged_2) (Γ := [o0, some (.d (houseD h)), o2, o3, none, some (.d (.tuple ws)), o6, o7, o8]) (M := M) (inj := id) (g := id) (p := fun x => !isDeed (sorts h) x) (xs := ws) (fun x hx => by simp [t_are_judged_1_ap, is_deed_th ok (hw x hx)]) (fun x hx _ => rfl)
    rw [List.map_id, List.map_id] at e
    have e2 : (ws.filter fun x => !isDeed (sorts h) x).isEmpty = ws.all (isDeed (sorts h)) := by
      rw [Bool.eq_iff_iff, List.isEmpty_iff, List.filter_eq_nil_iff, List.all_eq_true]
      simp
    refine ⟨some (.d (.bool (ws.all (isDeed (sorts h))))), ?_⟩
    simp [b_are_judged_2_ap, tt, hl2, e, is_script_tup ok hw hl, nil_eq, e2, alike_bool]
  · refine ⟨some (.d (.bool false)), ?_⟩
    simp [b_are_judged_2_ap, hx, is_script_no hx, alike_bool]
theorem near_go {h : List HRow} (ok : HouseOk h) {r : HRow} (hr : r ∈ h) : Near [.str "go", .str r.name, .int 1] :=
  ⟨by simp; exact ⟨leaf_odd (by decide), .str _ (plain_menu _ (ok.mem r hr)), .int 1⟩, (by intro z hz; cases hz; intro h; cases h), .inl rfl⟩
theorem paired_all {α : Type} {P : α → Prop} {ds : List PyData} : ∀ {as : List α}, Paired (fun (_ : PyData) (a : α) => P a) ds as → as.length = ds.length ∧ ∀ a ∈ as, P a
  | _, p => by
    induction p with
    | nil => exact ⟨rfl, by simp⟩
    | cons q qs ih =>
      refine ⟨by rw [List.length_cons, List.length_cons, ih.1], fun a ha => ?_⟩
      rcases List.mem_cons.mp ha with rfl | ha
      · exact q
      · exact ih.2 a ha
@[simp] theorem house_0 {r : HRow} {t : List HRow} {M : MS} : ixV (.d (houseD (r :: t))) (.d (.int 0)) M = some (.d (rowD r), M) := by unfold houseD; simp
@[simp] theorem row_0 {r : HRow} {M : MS} : ixV (.d (rowD r)) (.d (.int 0)) M = some (.d (.str r.name), M) := rfl
@[simp] theorem row_1 {r : HRow} {M : MS} : ixV (.d (rowD r)) (.d (.int 1)) M = some (.d (.int r.least), M) := rfl
@[simp] theorem row_2 {r : HRow} {M : MS} : ixV (.d (rowD r)) (.d (.int 2)) M = some (.d (optD r.most), M) := rfl
theorem are_judged_ok {b : Bag} (gb : b.Good) {h : List HRow} (ok : HouseOk h) {pool : List Int} {ds : List Deed} (okd : ∀ d ∈ ds, DeedOk (sorts h) pool d) (hl : ds.length ≤ 40) (R : MS) :
    ∃ b', b'.Good ∧ F_are_judged [.m 0, .d (houseD h), .d (scriptD ds)] (bagO b :: R) = .ok (.d (.bool true)) (bagO b' :: R) := by
  obtain ⟨r0, rest, rfl⟩ : ∃ r rest, h = r :: rest := by
    cases h with
    | nil => exact absurd rfl ok.n0
    | cons r t => exact ⟨r, t, rfl⟩
  have hn : ∀ s ∈ sorts (r0 :: rest), s ∈ menu := fun s hs => by
    obtain ⟨r, hr, rfl⟩ := List.mem_map.mp hs
    exact ok.mem r hr
  let go : PyData := .tuple [.str "go", .str r0.name, .int 1]
  have ngo : Near [.str "go", .str r0.name, .int 1] := near_go ok List.mem_cons_self
  obtain ⟨xs, b1, g1, px, e1⟩ := lcL_draw (i := 4) (f := e_are_judged_1) (Γ := [some (.m 0), some (.d (houseD (r0 :: rest))), some (.d (.tuple (ds.map deedD))), none, none, none, none, none, none]) (g := id) (Q := fun _ x => Thing x) (ds := ds.map deedD ++ [go]) (fun d hd b gb => by
    obtain ⟨ws, rfl, nw⟩ : ∃ ws, d = .tuple ws ∧ Near ws := by
      rcases List.mem_append.mp hd with hd | hd
      · obtain ⟨d, hd2, rfl⟩ := List.mem_map.mp hd
        obtain ⟨ws, e, nw, _⟩ := deed_near hn (okd d hd2)
        exact ⟨ws, e, nw⟩
      · exact ⟨_, List.mem_singleton.mp hd, ngo⟩
    obtain ⟨x, b', g', tx, e⟩ := other_deed_ok gb ok nw
    exact ⟨x, b', g', tx, fun R => by simp [e_are_judged_1_ap, e]⟩) gb
  rw [List.map_id] at e1
  obtain ⟨q1, q2⟩ := paired_all px
  rw [List.length_append, List.length_map, List.length_singleton] at q1
  have hT : ∀ d ∈ ds.map deedD ++ xs, Thing d := fun d hd => by
    rcases List.mem_append.mp hd with hd | hd
    · obtain ⟨d, hd2, rfl⟩ := List.mem_map.mp hd
      exact deed_thing hn (okd d hd2)
    · exact q2 d hd
  obtain ⟨Γ1, M1, f1, o5, rfl, rfl⟩ := forL_inv (tg := nmG 5) (body := b_are_judged_1) (Inv := fun Γ M => ∃ o5, Γ = [some (.m 0), some (.d (houseD (r0 :: rest))), some (.d (.tuple (ds.map deedD))), some (.d (.list (ds.map deedD ++ xs))), none, o5, none, none, none] ∧ M = bagO b1 :: R) (ds.map deedD ++ xs) (Γ := [some (.m 0), some (.d (houseD (r0 :: rest))), some (.d (.tuple (ds.map deedD))), some (.d (.list (ds.map deedD ++ xs))), none, none, none, none, none]) (M := bagO b1 :: R) ⟨none, rfl, rfl⟩ (fun d hd Γ M i => by
    obtain ⟨o5, rfl, rfl⟩ := i
    refine ⟨_, _, rfl, _, _, .inl ?_, some (.d d), rfl, rfl⟩
    simp [b_are_judged_1_ap, p_is_deed_th ok (hT d hd), is_deed_th ok (hT d hd), alike_bool])
  obtain ⟨k, b2, g2, k0, k1, e2⟩ := take_ok g1 (n := (ds.length : Int) + 1) (by omega) (by omega)
  obtain ⟨x, b3, g3, tx, e3⟩ := other_deed_ok g2 ok ngo
  have c1 : cutD (ds.map deedD) none (some k) = (ds.take k.toNat).map deedD := by rw [cutD_map, cut_take _ k0]
  have c2 : cutD (ds.map deedD) (some k) none = (ds.drop k.toNat).map deedD := by rw [cutD_map, cut_drop _ k0]
  let some1 : List PyData := [.tuple (ds.map deedD), .list (ds.map deedD), .none, .tuple ((ds.take k.toNat).map deedD ++ x :: (ds.drop k.toNat).map deedD), .tuple [.tuple (ds.map deedD)], .int 7, .dict []]
  have hS : ∀ y ∈ some1, (∃ ws, y = .tuple ws ∧ (∀ z ∈ ws, Thing z) ∧ ws.length < 10000) ∨ isTy (tyD y) "tuple" = false := by
    have t1 : ∀ z ∈ ds.map deedD, Thing z := fun z hz => hT z (List.mem_append_left _ hz)
    refine List.forall_mem_cons.mpr ⟨.inl ⟨_, rfl, t1, by rw [List.length_map]; omega⟩, ?_⟩
    refine List.forall_mem_cons.mpr ⟨.inr rfl, ?_⟩
    refine List.forall_mem_cons.mpr ⟨.inr rfl, ?_⟩
    refine List.forall_mem_cons.mpr ⟨.inl ⟨_, rfl, fun z hz => ?_, by simp; omega⟩, ?_⟩
    · rcases List.mem_append.mp hz with hz | hz
      · obtain ⟨d, hd, rfl⟩ := List.mem_map.mp hz
        exact t1 _ (List.mem_map.mpr ⟨d, List.mem_of_mem_take hd, rfl⟩)
      · rcases List.mem_cons.mp hz with rfl | hz
        · exact tx
        · obtain ⟨d, hd, rfl⟩ := List.mem_map.mp hz
          exact t1 _ (List.mem_map.mpr ⟨d, List.mem_of_mem_drop hd, rfl⟩)
    refine List.forall_mem_cons.mpr ⟨.inl ⟨_, rfl, fun z hz => ?_, by simp⟩, ?_⟩
    · rw [List.mem_singleton.mp hz]; exact script_thing hn okd
    refine List.forall_mem_cons.mpr ⟨.inr rfl, ?_⟩
    refine List.forall_mem_cons.mpr ⟨.inr rfl, ?_⟩
    exact fun _ h => absurd h List.not_mem_nil
  obtain ⟨Γ2, M2, f2, o5', o8', rfl, rfl⟩ := forL_inv (tg := nmG 5) (body := b_are_judged_2) (Inv := fun Γ M => ∃ o5' o8', Γ = [some (.m 0), some (.d (houseD (r0 :: rest))), some (.d (.tuple (ds.map deedD))), some (.d (.list (ds.map deedD ++ xs))), none, o5', some (.d (.int k)), some (.d (.list (some1.take 4))), o8'] ∧ M = bagO b3 :: R) some1 (Γ := [some (.m 0), some (.d (houseD (r0 :: rest))), some (.d (.tuple (ds.map deedD))), some (.d (.list (ds.map deedD ++ xs))), none, o5, some (.d (.int k)), some (.d (.list (some1.take 4))), none]) (M := bagO b3 :: R) ⟨o5, none, rfl, rfl⟩ (fun d hd Γ M i => by
    obtain ⟨o5, o8, rfl, rfl⟩ := i
    obtain ⟨o8', e⟩ := judged2 ok (hS d hd) (o0 := some (.m 0)) (o2 := some (.d (.tuple (ds.map deedD)))) (o3 := some (.d (.list (ds.map deedD ++ xs)))) (o6 := some (.d (.int k))) (o7 := some (.d (.list (some1.take 4)))) (o8 := o8) (bagO b3 :: R)
    exact ⟨_, _, rfl, _, _, .inl e, some (.d d), o8', rfl, rfl⟩)
  refine ⟨b3, g3, ?_⟩
  have h1 : ds.length < 16777216 := by omega
  have e1' := e1 R
  simp [go] at e1'
  have h2 : xs.length < 16777216 := by omega
  have h3 : ds.length + 1 ≤ 16777216 := by omega
  have h3' : ds.length + 1 < 16777216 := by omega
  have h4 : ds.length + (ds.length + 1) ≤ 16777216 := by omega
  have h5 : (ds.take k.toNat).length + 1 + (ds.drop k.toNat).length ≤ 16777216 := by rw [List.length_take, List.length_drop]; omega
  have h6 : min k.toNat ds.length ≤ 16777215 := by omega
  have h7 : min k.toNat ds.length + 1 + (ds.length - k.toNat) ≤ 16777216 := by omega
  have f1' := f1
  have f2' := f2
  simp [some1] at f2' 
  simp [F_are_judged, defF_ap, g_are_judged, scriptD, e1', h1, h2, h3, h3', h4, h6, h7, q1, f1, e2, e3, c1, c2, f2', finD_bag0]
end Z

/-! P11: tables behind scripts may be compared and shown; freed houses. -/
namespace Z
open PySem PySem.Spec PyProof.Rows L2
theorem look_self : ∀ {ks : List (Key × PyData)}, (ks.map (·.1)).Nodup → ∀ q ∈ ks, lookK ks q.1 = some q.2
  | [], _, q, h => by simp at h
  | p :: ks, nd, q, h => by
    have nd2 := List.nodup_cons.mp (show (p.1 :: ks.map (·.1)).Nodup from nd)
    rcases List.mem_cons.mp h with rfl | h
    · simp [lookK]
    · have ne : p.1 ≠ q.1 := fun z => nd2.1 (z ▸ List.mem_map.mpr ⟨q, h, rfl⟩)
      have ih := look_self nd2.2 q h
      unfold lookK at ih ⊢
      rw [List.find?_cons_of_neg (by simpa using ne)]
      exact ih
theorem eqKv_all {ls : List (Key × PyData)} : ∀ {r : List (Key × PyData)}, (∀ q ∈ r, lookK ls q.1 = some q.2 ∧ SeqAt.shaped q.2 = true) → eqKv ls r = some true
  | [], _ => rfl
  | (k, d) :: r, h => by
    obtain ⟨h1, h2⟩ := h (k, d) List.mem_cons_self
    have ih := eqKv_all fun q hq => h q (List.mem_cons_of_mem _ hq)
    unfold eqKv
    simp only at h1 h2
    rw [h1]
    simp only [h2, Bool.and_self, if_true, ih]
    rw [SeqAt.eqv_refl d (SeqAt.canLay_of_shaped h2)]
    rfl
theorem eqX_self {ks : List (Key × PyData)} (nd : (ks.map (·.1)).Nodup) (h : ∀ q ∈ ks, SeqAt.shaped q.2 = true) : altC eqC eqXW (.d (dictK ks)) (.d (dictK ks)) [] = some true := by
  have e1 : eqC (.d (dictK ks)) (.d (dictK ks)) [] = none := by
    show (if SeqAt.shaped (dictK ks) && SeqAt.shaped (dictK ks) then some (PyData.eqv (dictK ks) (dictK ks)) else none) = none
    simp [SeqAt.shaped, dictK, PyData.canLay0]
  rw [altC_ap, e1, altC2_none, eqX_dd]
  show ((unkey _).bind fun a => (unkey _).bind fun b => if a.length = b.length then eqKv b a else some false) = _
  rw [unkey_map]
  simp
  exact eqKv_all fun q hq => ⟨look_self nd q hq, h q hq⟩
def total (t : Tab) : Nat := (t.map (·.2.length)).sum
theorem total_set : ∀ {t : Tab} {a : Str} {v : List Int}, (t.map (·.1)).Nodup → a ∈ t.map (·.1) → total (setT t a v) + (getT t a).length = total t + v.length
  | [], a, v, _, h => by simp at h
  | p :: t, a, v, nd, h => by
    have nd2 := List.nodup_cons.mp (show (p.1 :: t.map (·.1)).Nodup from nd)
    have e0 : setT (p :: t) a v = (if p.1 = a then (p.1, v) else p) :: setT t a v := rfl
    have tc : ∀ (q : Str × List Int) (r : Tab), total (q :: r) = q.2.length + total r := fun q r => by unfold total; rw [List.map_cons, List.sum_cons]
    rw [e0]
    by_cases e : p.1 = a
    · subst e
      rw [if_pos rfl, getT_head, tc, tc]
      have : setT t p.1 v = t := by
        unfold setT
        refine (List.map_congr_left fun q hq => ?_).trans (List.map_id t)
        rw [if_neg fun z => nd2.1 (by rw [← z]; exact List.mem_map.mpr ⟨q, hq, rfl⟩)]
        rfl
      rw [this]
      simp only; omega
    · rw [if_neg e, getT_tail e, tc, tc]
      have h2 : a ∈ t.map (·.1) := by
        rcases List.mem_cons.mp h with z | z
        · exact absurd z.symm e
        · exact z
      have := total_set (v := v) nd2.2 h2
      omega
theorem total_step {t : Tab} {d : Deed} (nd : (t.map (·.1)).Nodup) (hd : InN (t.map (·.1)) d) : total (stepT t d) ≤ total t + 1 := by
  cases d with
  | come a n =>
    have := total_set (v := sortI (getT t a ++ [n])) nd hd
    rw [sortI_len, List.length_append, List.length_singleton] at this
    show total (setT t a _) ≤ _
    omega
  | keep a k =>
    have := total_set (v := (getT t a).drop (((getT t a).length : Int) - k).toNat) nd hd
    rw [List.length_drop] at this
    show total (setT t a _) ≤ _
    omega
  | go a k =>
    by_cases c : k ≤ ((getT t a).length : Int)
    · have e : stepT t (.go a k) = _ := if_pos c
      have := total_set (v := (getT t a).eraseIdx (((getT t a).length : Int) - k).toNat) nd hd
      have := List.length_eraseIdx_le (getT t a) (((getT t a).length : Int) - k).toNat
      rw [e]
      omega
    · have e : stepT t (.go a k) = _ := if_neg c
      rw [e]; omega
  | merge a b =>
    have nd1 : ((setT t b (sortI (getT t b ++ getT t a))).map (·.1)).Nodup := by rw [setT_keys]; exact nd
    have h1 := total_set (v := sortI (getT t b ++ getT t a)) nd hd.2.1
    have h2 := total_set (a := a) (v := []) nd1 (by rw [setT_keys]; exact hd.1)
    rw [getT_set _ hd.2.1, if_neg hd.2.2] at h2
    rw [sortI_len, List.length_append] at h1
    rw [List.length_nil] at h2
    show total (setT (setT t b _) a []) ≤ _
    omega
  | move a k b =>
    by_cases c : k ≤ ((getT t a).length : Int)
    · have e : stepT t (.move a k b) = _ := if_pos c
      have nd1 : ((setT t a ((getT t a).eraseIdx (((getT t a).length : Int) - k).toNat)).map (·.1)).Nodup := by rw [setT_keys]; exact nd
      have h1 := total_set (v := (getT t a).eraseIdx (((getT t a).length : Int) - k).toNat) nd hd.1
      have h2 := total_set (a := b) (v := sortI (getT (setT t a ((getT t a).eraseIdx (((getT t a).length : Int) - k).toNat)) b ++ [(getT t a).getD (((getT t a).length : Int) - k).toNat 0])) nd1 (by rw [setT_keys]; exact hd.2.1)
      have := List.length_eraseIdx_le (getT t a) (((getT t a).length : Int) - k).toNat
      rw [sortI_len, List.length_append, List.length_singleton] at h2
      rw [e]
      omega
    · have e : stepT t (.move a k b) = _ := if_neg c
      rw [e]; omega
theorem total_run : ∀ {ds : List Deed} {t : Tab}, (t.map (·.1)).Nodup → (∀ d ∈ ds, InN (t.map (·.1)) d) → total (runT t ds) ≤ total t + ds.length
  | [], t, _, _ => Nat.le_refl _
  | d :: ds, t, nd, h => by
    have h1 := total_step nd (h d List.mem_cons_self)
    have h2 := total_run (ds := ds) (t := stepT t d) (by rw [stepT_keys]; exact nd) (by rw [stepT_keys]; exact fun d' h' => h d' (List.mem_cons_of_mem _ h'))
    show total (runT (stepT t d) ds) ≤ _
    rw [List.length_cons]; omega
theorem tab_eta {t : Tab} (nd : (t.map (·.1)).Nodup) : (t.map (·.1)).map (fun a => (a, getT t a)) = t := by
  refine (tab_ext ?_ nd fun a ha => ?_).symm
  · rw [List.map_map]
    exact ((List.map_congr_left fun _ _ => rfl).trans (List.map_id _)).symm
  · exact (getT_mapped ha).symm
theorem sortedT_perm {t : Tab} (nd : (t.map (·.1)).Nodup) : (sortedT t).Perm t := by
  have := (sortS_perm (t.map (·.1))).map fun a => (a, getT t a)
  rw [tab_eta nd] at this
  exact this
theorem total_sorted {t : Tab} (nd : (t.map (·.1)).Nodup) : total (sortedT t) = total t := by
  unfold total
  exact ((sortedT_perm nd).map _).sum_nat
def AllN (P : Int → Prop) (t : Tab) : Prop := ∀ p ∈ t, ∀ n ∈ p.2, P n
theorem AllN.get {P : Int → Prop} {t : Tab} (h : AllN P t) (a : Str) : ∀ n ∈ getT t a, P n := by
  unfold getT
  cases e : t.find? fun p => decide (p.1 = a) with
  | none => intro n hn; simp at hn
  | some p => exact h p (List.mem_of_find?_eq_some e)
theorem AllN.set {P : Int → Prop} {t : Tab} (h : AllN P t) {a : Str} {v : List Int} (hv : ∀ n ∈ v, P n) : AllN P (setT t a v) := fun p hp => by
  obtain ⟨q, hq, rfl⟩ := List.mem_map.mp hp
  split
  · exact hv
  · exact h q hq
theorem AllN.step {P : Int → Prop} {t : Tab} (h : AllN P t) {d : Deed} (hd : ∀ n, comeN d = some n → P n) (hk : ∀ a k b, d = .move a k b → 1 ≤ k) : AllN P (stepT t d) := by
  have er : ∀ {v : List Int} {i : Nat}, (∀ n ∈ v, P n) → ∀ n ∈ v.eraseIdx i, P n := fun h n hn => h n (List.mem_of_mem_eraseIdx hn)
  have so : ∀ {v : List Int}, (∀ n ∈ v, P n) → ∀ n ∈ sortI v, P n := fun h n hn => h n ((sortI_perm _).mem_iff.mp hn)
  have ap : ∀ {v w : List Int}, (∀ n ∈ v, P n) → (∀ n ∈ w, P n) → ∀ n ∈ v ++ w, P n := fun h1 h2 n hn => (List.mem_append.mp hn).elim (h1 n) (h2 n)
  cases d with
  | come a n => exact h.set (so (ap (h.get a) fun m hm => by rw [List.mem_singleton.mp hm]; exact hd n rfl))
  | keep a k => exact h.set fun n hn => h.get a n (List.mem_of_mem_drop hn)
  | merge a b => exact (h.set (so (ap (h.get b) (h.get a)))).set (by simp)
  | go a k =>
    by_cases c : k ≤ ((getT t a).length : Int)
    · have e : stepT t (.go a k) = _ := if_pos c
      rw [e]; exact h.set (er (h.get a))
    · have e : stepT t (.go a k) = _ := if_neg c
      rw [e]; exact h
  | move a k b =>
    by_cases c : k ≤ ((getT t a).length : Int)
    · have e : stepT t (.move a k b) = _ := if_pos c
      rw [e]
      have h1 := h.set (a := a) (er (i := (((getT t a).length : Int) - k).toNat) (h.get a))
      by_cases c2 : (((getT t a).length : Int) - k).toNat < (getT t a).length
      · refine h1.set (so (ap (h1.get b) fun m hm => ?_))
        rw [List.mem_singleton.mp hm, List.getD_eq_getElem?_getD, List.getElem?_eq_getElem c2]
        exact h.get a _ (List.getElem_mem c2)
      · exact absurd (hk a k b rfl) (by omega)
    · have e : stepT t (.move a k b) = _ := if_neg c
      rw [e]; exact h
theorem weight_tab : ∀ {t : Tab}, (∀ p ∈ t, p.1 ∈ menu) → AllN (fun n => -numB * 10 ≤ n ∧ n ≤ numB * 10) t →
    PyData.leavesShortKv 60 (t.map fun p => (PyData.str p.1, .tuple (p.2.map .int))) = true ∧ PyData.showableKv (t.map fun p => (PyData.str p.1, .tuple (p.2.map .int))) = true ∧ PyData.depthKv (t.map fun p => (PyData.str p.1, .tuple (p.2.map .int))) ≤ 2 ∧ PyData.weightKv (t.map fun p => (PyData.str p.1, .tuple (p.2.map .int))) ≤ 10 * t.length + 201 * total t
  | [], _, _ => ⟨rfl, rfl, Nat.zero_le _, Nat.zero_le _⟩
  | p :: t, hm, hn => by
    obtain ⟨a2, b2, c2, e2⟩ := weight_tab (t := t) (fun q hq => hm q (List.mem_cons_of_mem _ hq)) fun q hq => hn q (List.mem_cons_of_mem _ hq)
    have mk := mild_name (hm p List.mem_cons_self)
    have mv : Mild (.tuple (p.2.map .int)) 1 (p.2.length * 201) := mild_tup (n := 0) (w := 200) (fun d hd => by
      obtain ⟨n, h, rfl⟩ := List.mem_map.mp hd
      exact mild_num (hn p List.mem_cons_self n h)) (by rw [List.length_map]; exact Nat.le_refl _)
    have tc : total (p :: t) = p.2.length + total t := by unfold total; rw [List.map_cons, List.sum_cons]
    have w1 := mk.wt
    have w2 := mv.wt
    refine ⟨?_, ?_, ?_, ?_⟩
    · rw [List.map_cons, PyData.leavesShortKv, mk.lv, mv.lv, a2]; rfl
    · rw [List.map_cons, PyData.showableKv, mk.sw, mv.sw, b2]; rfl
    · rw [List.map_cons, PyData.depthKv]
      have := mk.dp; have := mv.dp
      omega
    · rw [List.map_cons, PyData.weightKv, tc, List.length_cons]
      omega
theorem mild_tabT {t : Tab} (hm : ∀ p ∈ t, p.1 ∈ menu) (hn : AllN (fun n => -numB * 10 ≤ n ∧ n ≤ numB * 10) t) {w : Nat} (hw : 10 * t.length + 201 * total t ≤ w) : Mild (tabD t) 3 w := by
  obtain ⟨a, b, c, e⟩ := weight_tab hm hn
  have he : tabD t = .dict (t.map fun p => (PyData.str p.1, .tuple (p.2.map .int))) := by
    unfold tabD dictK
    rw [List.map_map]; rfl
  rw [he]
  exact ⟨by rw [PyData.leavesShort]; exact a, by rw [PyData.showable]; exact b, by rw [PyData.depth]; omega, by rw [PyData.weight]; omega⟩
theorem shaped_rows (v : List Int) : SeqAt.shaped (.tuple (v.map .int)) = true := by
  have h1 : PyData.canLay0 (.tuple (v.map .int)) = true := by rw [PyData.canLay0]; exact lay_ints v
  have h2 : PyData.depthAll (v.map .int) ≤ 0 := by
    induction v with
    | nil => exact Nat.le_refl _
    | cons n v ih => rw [List.map_cons, PyData.depthAll]; exact Nat.max_le.mpr ⟨Nat.le_refl _, ih (by rw [PyData.canLay0]; exact lay_ints v)⟩
  unfold SeqAt.shaped
  rw [h1, PyData.depth]
  simp; omega
theorem comp_tab {t : Tab} (nd : (t.map (·.1)).Nodup) (hm : ∀ p ∈ t, p.1 ∈ menu) (hn : AllN (fun n => -numB * 10 ≤ n ∧ n ≤ numB * 10) t) (hw : 10 * t.length + 201 * total t ≤ 200000) : Comp (tabD t) := by
  have m := mild_tabT hm hn (Nat.le_refl _)
  refine ⟨eqX_self ?_ ?_, m.sw, Nat.le_trans m.dp (by decide), m.shown hw⟩
  · rw [List.map_map]
    have : (t.map ((fun q : Key × PyData => q.1) ∘ fun p : Str × List Int => ((Sum.inr p.1 : Key), PyData.tuple (p.2.map .int)))) = (t.map (·.1)).map Sum.inr := by rw [List.map_map]; rfl
    rw [this]
    exact List.pairwise_map.mpr (List.Pairwise.imp (fun h e => h (Sum.inr.inj e)) nd)
  · intro q hq
    obtain ⟨p, _, rfl⟩ := List.mem_map.mp hq
    exact shaped_rows _
theorem AllN.run {P : Int → Prop} : ∀ {ds : List Deed} {t : Tab}, AllN P t → (∀ d ∈ ds, (∀ n, comeN d = some n → P n) ∧ ∀ a k b, d = .move a k b → 1 ≤ k) → AllN P (runT t ds)
  | [], t, h, _ => h
  | d :: ds, t, h, hd => AllN.run (ds := ds) (t := stepT t d) (h.step (hd d List.mem_cons_self).1 (hd d List.mem_cons_self).2) fun d' h' => hd d' (List.mem_cons_of_mem _ h')
theorem AllN.sorted {P : Int → Prop} {t : Tab} (h : AllN P t) : AllN P (sortedT t) := fun p hp => by
  obtain ⟨a, _, rfl⟩ := List.mem_map.mp hp
  exact h.get a
theorem AllN.start {P : Int → Prop} {h : List HRow} {t : Tab} (hp : AllN P t) : AllN P (startT h t) := fun p hq => by
  obtain ⟨r, _, rfl⟩ := List.mem_map.mp hq
  exact hp.get _
/-- tables with the same names and rows are sorted alike -/
theorem sortedT_ext {t t' : Tab} (hk : (t.map (·.1)).Perm (t'.map (·.1))) (hg : ∀ a ∈ t.map (·.1), getT t a = getT t' a) : sortedT t = sortedT t' := by
  unfold sortedT
  have e : sortS (t.map (·.1)) = sortS (t'.map (·.1)) := sortS_of ((sortS_perm _).trans hk) (sortS_pw _)
  rw [← e]
  exact List.map_congr_left fun a ha => by rw [hg a (mem_sortS.mp ha)]
def freeR (r : HRow) : HRow := ⟨r.name, 0, none⟩
def freeH (h : List HRow) : List HRow := h.map freeR
theorem sorts_free (h : List HRow) : sorts (freeH h) = sorts h := by
  unfold sorts freeH
  rw [List.map_map]; rfl
theorem free_ok {h : List HRow} (ok : HouseOk h) : HouseOk (freeH h) := ⟨fun z => ok.n0 (List.map_eq_nil_iff.mp z), by unfold freeH; rw [List.length_map]; exact ok.n1, by rw [show (freeH h).map (·.name) = sorts (freeH h) from rfl, sorts_free]; exact ok.nd, fun r hr => by
  obtain ⟨q, hq, rfl⟩ := List.mem_map.mp hr
  exact ok.mem q hq, fun r hr => by
  obtain ⟨q, hq, rfl⟩ := List.mem_map.mp hr
  exact rowOk (by decide) (by decide) (by intro x hx; cases hx)⟩
theorem p_freed_ok {h : List HRow} (hl : h.length < 1000) (M : MS) : F_p_freed [.d (houseD h)] M = .ok (.d (houseD (freeH h))) M := by
  have hl2 : h.length < 16777216 := by omega
  have e := lcL_mapG (tg := tupG 3 (consG (nmG 1) (consG (nmG 2) (consG (nmG 3) nilG)))) (f := e_p_freed_1) (Γ := [some (.d (houseD h)), none, none, none]) (M := M) (inj := rowD) (g := fun r => rowD (freeR r)) (xs := h) (fun r _ => ⟨_, rfl, by simp [e_p_freed_1_ap, rowD, freeR, optD]⟩)
  have e2 : houseD (freeH h) = .tuple (h.map fun r => rowD (freeR r)) := by unfold houseD freeH; rw [List.map_map]; rfl
  simp only [List.map_map] at e
  simp [F_p_freed, defF_ap, g_p_freed, hl2, e, e2]
theorem freed_ok {h : List HRow} (hl : h.length < 1000) (M : MS) : F_freed [.d (houseD h)] M = .ok (.d (houseD (freeH h))) M := by
  have hl2 : h.length < 16777216 := by omega
  have e := lcL_map (i := 1) (f := e_freed_1) (Γ := [some (.d (houseD h)), none]) (M := M) (inj := rowD) (g := fun r => rowD (freeR r)) (xs := h) (fun r _ => by simp [e_freed_1_ap, rowD, freeR, optD])
  have e2 : houseD (freeH h) = .tuple (h.map fun r => rowD (freeR r)) := by unfold houseD freeH; rw [List.map_map]; rfl
  simp only [List.map_map] at e
  simp [F_freed, defF_ap, g_freed, hl2, e, e2]
end Z

/-! P83: the law of deeds done. -/
namespace Z
open PySem PySem.Spec PyProof.Rows L2
theorem alike_rd {w : W} {d : PyData} {M : MS} (hw : rd M w = some d) (h : Comp d) : F_alike [w, .d d] M = .ok (.d (.bool true)) M := by
  have hr := reprD_of h.sw h.dp h.ln
  have e1 : eqC w (.d d) M = eqD d d := by unfold eqC; rw [hw]; rfl
  have e2 : eqXW w (.d d) M = eqX d d := by unfold eqXW; rw [hw]; rfl
  have e3 : reprV w M = some (.d (.str d.shown), M) := by unfold reprV; rw [hw]; show (reprD d).map _ = _; rw [hr]; rfl
  have he : altC2 (eqC w (.d d) M) eqXW w (.d d) M = some true := by
    have := h.eq
    rw [altC_ap, eqC_dd] at this
    rw [e1]
    cases q : eqD d d with
    | some r => rw [q] at this; exact this
    | none => rw [q, altC2_none, eqX_dd] at this; rw [altC2_none, e2]; exact this
  simp [F_alike, defF_ap, g_alike, hr, he, e3]
theorem sorts_len (h : List HRow) : (sorts h).length = h.length := List.length_map _
theorem lay_freeh : ∀ {h : List HRow}, (∀ r ∈ h, r.name ∈ menu) → PyData.canLayAll0 (h.map rowD) = true
  | [], _ => rfl
  | r :: h, hm => by
    have e := SeqAt.canLay_of_shaped (plain_menu _ (hm r List.mem_cons_self)).sh
    rw [List.map_cons, PyData.canLayAll0, lay_freeh fun q hq => hm q (List.mem_cons_of_mem _ hq)]
    have : PyData.canLay0 (rowD r) = true := by
      unfold rowD
      rw [PyData.canLay0, PyData.canLayAll0, e]
      cases r.most <;> rfl
    rw [this]; rfl
theorem plain_houseD {h : List HRow} (ok : HouseOk h) : Plain (houseD h) :=
  plain_of (mild_house ok) (by decide) (by decide) (by unfold houseD; rw [PyData.canLay0]; exact lay_freeh ok.mem)
/-- a turn of the law's inner loop -/
theorem law83_in {b : Bag} {R : MS} {r0 : HRow} {rest : List HRow} {t : Tab} {ds : List Deed} {T : Tab} (hp : ∀ M, F_p_done_M [.d (houseD (r0 :: rest)), .d (tabD t), .d (scriptD ds)] M = .ok (.m M.length) (M ++ [.dic (tabK T)]))
    (hc : Comp (tabD T)) (hl : T.length < 1000) {o2 o4 o7 o9 o10 o11 : Option W} :
    ∃ R' o10', b_p_law2_1 [none, some (.m 0), o2, some (.d (houseD (r0 :: rest))), o4, some (.d (tabD t)), some (.d (scriptD ds)), o7, some (.d (tabD T)), o9, o10, o11] (bagO b :: R) = .nx [none, some (.m 0), o2, some (.d (houseD (r0 :: rest))), o4, some (.d (tabD t)), some (.d (scriptD ds)), o7, some (.d (tabD T)), o9, o10', o11] (bagO b :: R') := by
  have e1 := hp (bagO b :: R)
  have hrd : rd (bagO b :: (R ++ [.dic (tabK T)])) (.m (R.length + 1)) = some (tabD T) := by
    rw [rdV_m]
    rw [List.getElem?_cons_succ, at_end]
    show (datKs (tabK T)).map dictK = _
    have : tabK T = (T.map (fun p => ((Sum.inr p.1 : Key), PyData.tuple (p.2.map .int)))).map fun q => (q.1, W.d q.2) := by simp [tabK]
    rw [this, datKs_map]; rfl
  have e2 := alike_rd hrd hc
  have hl2 : (tabK T).length < 16777216 := by unfold tabK; rw [List.length_map]; omega
  simp only [List.length_cons, List.cons_append] at e1
  refine ⟨R ++ [.dic (putW (tabK T) (.inr r0.name) (.d .none))], some (.m (R.length + 1)), ?_⟩
  have hl3 : T.length < 16777216 := by omega
  simp [b_p_law2_1, e1, e2, hl3]
theorem InN.sub {names names' : List Str} {d : Deed} (s : ∀ a ∈ names, a ∈ names') (h : InN names d) : InN names' d := by
  cases d with
  | come a n => exact s a h
  | go a n => exact s a h
  | keep a n => exact s a h
  | move a n b => exact ⟨s a h.1, s b h.2.1, h.2.2⟩
  | merge a b => exact ⟨s a h.1, s b h.2.1, h.2.2⟩
theorem DeedIn.sub {names names' : List Str} {d : Deed} (s : ∀ a ∈ names, a ∈ names') (h : DeedIn names d) : DeedIn names' d := ⟨h.1.sub s, h.2⟩
theorem runT_append (t : Tab) (a b : List Deed) : runT (runT t a) b = runT t (a ++ b) := (List.foldl_append).symm
theorem two_range : (List.range (2 : Int).toNat).map (fun (i : Nat) => PyData.int i) = [.int 0, .int 1] := rfl
theorem body83 {b : Bag} (gb : b.Good) {R : MS} {o2 o3 o4 o5 o6 o7 o8 o9 o10 o11 : Option W} : ∃ b' R' q3 q4 q5 q6 q7 q8 q9 q10 q11, b'.Good ∧
    b_p_law2_2 [none, some (.m 0), o2, o3, o4, o5, o6, o7, o8, o9, o10, o11] (bagO b :: R) = .nx [none, some (.m 0), o2, q3, q4, q5, q6, q7, q8, q9, q10, q11] (bagO b' :: R') := by
  obtain ⟨h, b1, g1, ok, e1⟩ := house_ok gb (most := 4) (by decide) (by decide)
  obtain ⟨pool, b2, g2, hp, e2⟩ := numbers_ok g1
  have hp0 : 0 < pool.length := List.length_pos_iff.mpr hp.1
  have hp1 : pool.length ≤ 7 := hp.2.1
  obtain ⟨t, b3, g3, ht, e3⟩ := table_ok g2 ok hp0 (by omega) (more := 2) (by decide) (by decide) R
  obtain ⟨m', b4, g4, hm, e4⟩ := one_ok g3 (ds := [2, 3, 9].map .int) (.inl rfl) (by decide) (by decide)
  obtain ⟨m, hm, rfl⟩ := mem_ints hm
  have hm : 1 ≤ m ∧ m ≤ 900 := by simp at hm; omega
  obtain ⟨ds, b5, g5, hl, okd, e5⟩ := script_ok g4 ok (pool := pool ++ [0]) (by simp) (by simp; omega) (many := 12) (most := m) (by decide) (by decide) hm.1 hm.2 R
  obtain ⟨k, b6, g6, k0, k1, e6⟩ := take_ok g5 (n := (ds.length : Int) + 1) (by omega) (by omega)
  have hl12 : ds.length ≤ 12 := by omega
  have hkeys : (t.map (·.1)).Perm (sorts h) := ht.keys
  have ndh : (sorts h).Nodup := ok.nd
  have nd : (t.map (·.1)).Nodup := hkeys.nodup_iff.mpr ndh
  have hin : ∀ a ∈ sorts h, a ∈ t.map (·.1) := fun a ha => hkeys.mem_iff.mpr ha
  have hb : ∀ p ∈ t, p.2.length ≤ 40 := fun p hp => (ht.rows p hp).2.1
  have hd : ∀ d ∈ ds, DeedIn (sorts h) d := fun d h => (okd d h).inD
  have hd' : ∀ d ∈ ds, DeedIn (t.map (·.1)) d := fun d h => (hd d h).sub hin
  have pw : ∀ n, n ≤ 12 → 2 ^ n ≤ 4096 := fun n hn => Nat.pow_le_pow_right (by decide) hn
  have hB : (40 + 1) * 2 ^ ds.length ≤ 4000000 := by have := pw _ hl12; omega
  have len4 : t.length = h.length := by have := hkeys.length_eq; rw [List.length_map, sorts_len] at this; exact this
  have hl9 : h.length ≤ 9 := ok.n1
  -- the table behind the script
  have eT : sortedT (runT t ds) = sortedT (runT (startT h t) ds) := by
    refine sortedT_ext (by rw [runT_keys, runT_keys, startT_keys]; exact hkeys) fun a ha => ?_
    rw [runT_keys] at ha
    exact runT_get ds (fun a => by rw [startT_keys]; exact hkeys.mem_iff) (fun a ha => (startT_get (hkeys.mem_iff.mp ha)).symm) (fun d h => (hd' d h).1) a ha
  have e8 := done_ok nd (by omega) hd' hb hB
  rw [eT] at e8
  have e9 := fun M => p_done_ok ok hin hd hb hB M
  generalize hT : sortedT (runT (startT h t) ds) = T at e8 e9
  have kT : T.map (·.1) = sortS (sorts h) := by rw [← hT, sortedT_keys, runT_keys, startT_keys]
  have ndT : (T.map (·.1)).Nodup := by rw [kT]; exact nd_sortS.mpr ndh
  have lenT : T.length = h.length := by have := congrArg List.length kT; rw [List.length_map, len_sortS, sorts_len] at this; exact this
  have numOk : ∀ n ∈ pool ++ [0], -numB * 10 ≤ n ∧ n ≤ numB * 10 := fun n hn => by
    rcases List.mem_append.mp hn with hn | hn
    · have := hp.2.2 n hn; unfold numB at *; omega
    · rw [List.mem_singleton.mp hn]; unfold numB; omega
  have allT : AllN (fun n => -numB * 10 ≤ n ∧ n ≤ numB * 10) T := by
    rw [← hT]
    refine AllN.sorted (AllN.run (AllN.start fun p hp n hn => numOk n (List.mem_append_left _ ((ht.rows p hp).2.2 n hn))) fun d hdd => ⟨fun n hn => ?_, (hd d hdd).2.2.2⟩)
    have := okd d hdd
    cases d <;> first | (cases hn; exact numOk _ this.2) | cases hn
  have totS : total (startT h t) ≤ 360 := by
    have hsum : ∀ l : Tab, (∀ p ∈ l, p.2.length ≤ 40) → total l ≤ 40 * l.length := by
      intro l
      induction l with
      | nil => intro _; exact Nat.le_refl _
      | cons p l ih =>
        intro hp
        have := ih fun q hq => hp q (List.mem_cons_of_mem _ hq)
        have := hp p List.mem_cons_self
        have tc : total (p :: l) = p.2.length + total l := by unfold total; rw [List.map_cons, List.sum_cons]
        rw [tc, List.length_cons]; omega
    have := hsum (startT h t) (startT_bd hb)
    have l2 : (startT h t).length = h.length := List.length_map _
    omega
  have totT : total T ≤ 372 := by
    rw [← hT, total_sorted (by rw [runT_keys, startT_keys]; exact ndh)]
    have := total_run (ds := ds) (t := startT h t) (by rw [startT_keys]; exact ndh) (by rw [startT_keys]; exact fun d h => (hd d h).1)
    omega
  have menT : ∀ p ∈ T, p.1 ∈ menu := fun p hp => by
    have : p.1 ∈ T.map (·.1) := List.mem_map.mpr ⟨p, hp, rfl⟩
    rw [kT, mem_sortS] at this
    obtain ⟨r, hr, e⟩ := List.mem_map.mp this
    rw [← e]; exact ok.mem r hr
  have cT : Comp (tabD T) := comp_tab ndT menT allT (by omega)
  obtain ⟨r0, rest, rfl⟩ : ∃ r rest, h = r :: rest := by
    cases h with
    | nil => exact absurd rfl ok.n0
    | cons r t => exact ⟨r, t, rfl⟩
  -- done in two parts
  have c1 : cutD (ds.map deedD) none (some k) = (ds.take k.toNat).map deedD := by rw [cutD_map, cut_take _ k0]
  have c2 : cutD (ds.map deedD) (some k) none = (ds.drop k.toNat).map deedD := by rw [cutD_map, cut_drop _ k0]
  have hsplit : ds.take k.toNat ++ ds.drop k.toNat = ds := List.take_append_drop _ _
  have lt : (ds.take k.toNat).length ≤ ds.length := by rw [List.length_take]; omega
  have ls : (ds.take k.toNat).length + (ds.drop k.toNat).length = ds.length := by rw [← List.length_append, hsplit]
  have hB1 : (40 + 1) * 2 ^ (ds.take k.toNat).length ≤ 4000000 := by have := pw (ds.take k.toNat).length (by omega); omega
  have e10 := fun M => (p_done_ok ok hin (ds := ds.take k.toNat) (fun d h => hd d (List.mem_of_mem_take h)) hb hB1 M).1
  have eT1 : sortedT (runT (startT (freeH (r0 :: rest)) (sortedT (runT (startT (r0 :: rest) t) (ds.take k.toNat)))) (ds.drop k.toNat)) = T := by
    have k1 : (runT (startT (r0 :: rest) t) (ds.take k.toNat)).map (·.1) = sorts (r0 :: rest) := by rw [runT_keys, startT_keys]
    rw [← hT]
    refine sortedT_ext (by rw [runT_keys, startT_keys, sorts_free, runT_keys, startT_keys]) fun a ha => ?_
    rw [runT_keys, startT_keys, sorts_free] at ha
    conv => rhs; rw [← hsplit, ← runT_append]
    refine runT_get _ (fun a => by rw [startT_keys, sorts_free, k1]) (fun a ha => ?_) (fun d h => by rw [startT_keys, sorts_free]; exact (hd d (List.mem_of_mem_drop h)).1) a (by rw [startT_keys, sorts_free]; exact ha)
    rw [startT_keys, sorts_free] at ha
    rw [startT_get (by rw [sorts_free]; exact ha), sortedT_get (by rw [k1]; exact ha)]
  have hB2 : (41 * 2 ^ (ds.take k.toNat).length - 1 + 1) * 2 ^ (ds.drop k.toNat).length ≤ 4000000 := by
    have h1 : 1 ≤ 2 ^ (ds.take k.toNat).length := Nat.one_le_two_pow
    have h2 : 41 * 2 ^ (ds.take k.toNat).length - 1 + 1 = 41 * 2 ^ (ds.take k.toNat).length := by omega
    rw [h2, Nat.mul_assoc, ← Nat.pow_add, ls]
    exact hB
  have e11 := fun M => (p_done_ok (free_ok ok) (t := sortedT (runT (startT (r0 :: rest) t) (ds.take k.toNat))) (ds := ds.drop k.toNat) (B := 41 * 2 ^ (ds.take k.toNat).length - 1)
    (fun a ha => by rw [sortedT_keys, runT_keys, startT_keys]; rw [sorts_free] at ha; exact mem_sortS.mpr ha) (fun d h => by rw [sorts_free]; exact hd d (List.mem_of_mem_drop h))
    (fun p hp => by
      obtain ⟨a, _, rfl⟩ := List.mem_map.mp hp
      exact getT_bd (runT_bd (startT_bd hb) _ _ rfl)) hB2 M).1
  rw [eT1] at e11
  generalize sortedT (runT (startT (r0 :: rest) t) (ds.take k.toNat)) = T1 at e10 e11
  have e12 := fun M => p_freed_ok (h := r0 :: rest) (by omega) M
  have e13 := fun M => freed_ok (h := r0 :: rest) (by omega) M
  have plF : Plain (houseD (freeH (r0 :: rest))) := plain_houseD (free_ok ok)
  -- what is shown
  have mt : Mild (tabD t) 2 (9 * (2 * 8040 + 2)) := mild_tab (pool := pool ++ [0]) (fun p hp => by
    have : p.1 ∈ t.map (·.1) := List.mem_map.mpr ⟨p, hp, rfl⟩
    obtain ⟨r, hr, e⟩ := List.mem_map.mp (hkeys.mem_iff.mp this)
    rw [← e]; exact ok.mem r hr) (fun n hn => numOk n hn) (fun p hp => ⟨(ht.rows p hp).2.1, fun n hn => List.mem_append_left _ ((ht.rows p hp).2.2 n hn)⟩) (by omega)
  have ms : Mild (scriptD ds) 2 (16 * 805) := mild_script (pool := pool ++ [0]) (names := sorts (r0 :: rest)) (fun s hs => by
    obtain ⟨r, hr, rfl⟩ := List.mem_map.mp hs
    exact ok.mem r hr) (fun n hn => numOk n hn) okd (by omega)
  have m3 := mild_three ((mild_house ok).up (Nat.le_refl 2) (Nat.le_refl _)) mt ms
  have hr := reprD_of m3.sw (Nat.le_trans m3.dp (by decide)) (m3.shown (by decide))
  -- the inner loop
  obtain ⟨Γ1, M1, f1, R1, o9', o10', rfl, rfl⟩ := forL_inv (tg := nmG 9) (body := b_p_law2_1) (Inv := fun Γ M => ∃ R1 o9' o10', Γ = [none, some (.m 0), o2, some (.d (houseD (r0 :: rest))), some (.d (.list (pool.map .int))), some (.d (tabD t)), some (.d (scriptD ds)), some (.d (.str (PyData.list [houseD (r0 :: rest), tabD t, scriptD ds]).shown)), some (.d (tabD T)), o9', o10', o11] ∧ M = bagO b5 :: R1) [.int 0, .int 1]
    (Γ := [none, some (.m 0), o2, some (.d (houseD (r0 :: rest))), some (.d (.list (pool.map .int))), some (.d (tabD t)), some (.d (scriptD ds)), some (.d (.str (PyData.list [houseD (r0 :: rest), tabD t, scriptD ds]).shown)), some (.d (tabD T)), o9, o10, o11]) (M := bagO b5 :: R) ⟨R, o9, o10, rfl, rfl⟩ (fun d hdd Γ M i => by
    obtain ⟨R1, o9', o10', rfl, rfl⟩ := i
    obtain ⟨R2, q, e⟩ := law83_in (b := b5) (R := R1) (o2 := o2) (o4 := some (.d (.list (pool.map .int)))) (o7 := some (.d (.str (PyData.list [houseD (r0 :: rest), tabD t, scriptD ds]).shown))) (o9 := some (.d d)) (o10 := o10') (o11 := o11) (fun M => (e9 M).2) cT (by omega)
    exact ⟨_, _, rfl, _, _, .inl e, R2, _, _, rfl, rfl⟩)
  obtain ⟨b7, g7, e7⟩ := are_judged_ok g6 ok okd (by omega) R1
  have e7' : ∀ M, M = bagO b6 :: R1 → F_are_judged [.m 0, .d (houseD (r0 :: rest)), .d (scriptD ds)] M = .ok (.d (.bool true)) (bagO b7 :: R1) := fun M h => by rw [h]; exact e7
  simp only [List.map_append, List.map_cons, List.map_nil] at e5 e4
  have hpl : pool.length + 1 ≤ 16777216 := by omega
  have sl1 : ∀ M, slV (.d (scriptD ds)) none (some k) M = some (.d (scriptD (ds.take k.toNat)), M) := fun M => by unfold scriptD; rw [sl_t, c1]
  have sl2 : ∀ M, slV (.d (scriptD ds)) (some k) none M = some (.d (scriptD (ds.drop k.toNat)), M) := fun M => by unfold scriptD; rw [sl_t, c2]
  have ln : ∀ M, lenV (.d (scriptD ds)) M = some (.d (.int (ds.length : Nat)), M) := fun M => by unfold scriptD; rw [len_t, List.length_map]
  have tr : (List.range 2).map (fun (i : Nat) => PyData.int ↑i) = [.int 0, .int 1] := rfl
  refine ⟨b7, R1, some (.d (houseD (r0 :: rest))), some (.d (.list (pool.map .int))), some (.d (tabD t)), some (.d (scriptD ds)), some (.d (.str (PyData.list [houseD (r0 :: rest), tabD t, scriptD ds]).shown)), some (.d (tabD T)), o9', o10', some (.d (.int k)), g7, ?_⟩
  simp [b_p_law2_2, e1, e2, e3, e4, e5, e6, e7, e8, e10, e11, e12, e13, hpl, hr, f1, alike_same cT, alike_same plF.comp, sl1, sl2, ln, tr]
theorem pure83 (b : Bag) (gb : b.Good) : ∃ M1, g_p_law2 (none :: some (.m 0) :: List.replicate 10 none) [bagO b] = .rt (.d (.bool true)) M1 := by
  obtain ⟨Γ1, M1, f1, b', R', o2, o3, o4, o5, o6, o7, o8, o9, o10, o11, g', rfl, rfl⟩ := forL_inv (tg := nmG 2) (body := b_p_law2_2) (Inv := fun Γ M => ∃ (b' : Bag) (R' : MS) (o2 o3 o4 o5 o6 o7 o8 o9 o10 o11 : Option W), b'.Good ∧ Γ = [none, some (.m 0), o2, o3, o4, o5, o6, o7, o8, o9, o10, o11] ∧ M = bagO b' :: R') [.int 0, .int 1, .int 2, .int 3]
    (Γ := [none, some (.m 0), none, none, none, none, none, none, none, none, none, none]) (M := [bagO b]) ⟨b, [], none, none, none, none, none, none, none, none, none, none, gb, rfl, rfl⟩ (fun d _ Γ M i => by
    obtain ⟨b', R', o2, o3, o4, o5, o6, o7, o8, o9, o10, o11, g', rfl, rfl⟩ := i
    obtain ⟨b2, R2, q3, q4, q5, q6, q7, q8, q9, q10, q11, g2, e⟩ := body83 g' (R := R') (o2 := some (.d d)) (o3 := o3) (o4 := o4) (o5 := o5) (o6 := o6) (o7 := o7) (o8 := o8) (o9 := o9) (o10 := o10) (o11 := o11)
    exact ⟨_, _, rfl, _, _, .inl e, b2, R2, _, q3, q4, q5, q6, q7, q8, q9, q10, q11, g2, rfl, rfl⟩)
  have tr : (List.range 4).map (fun (i : Nat) => PyData.int ↑i) = [.int 0, .int 1, .int 2, .int 3] := rfl
  refine ⟨bagO b' :: R', ?_⟩
  have e : (none :: some (W.m 0) :: List.replicate 10 none : GS) = [none, some (.m 0), none, none, none, none, none, none, none, none, none, none] := rfl
  rw [e]
  simp [g_p_law2, tr, f1]
end Z

namespace D83
open PySem PySem.Spec PyProof.Rows L2 Z
abbrev topS (i : Nat) : Stmt := PySem.Challenge.pw_countsfall_k83_deeds_done.main.body.getD i (.Pass ⟨0, 0, 0, 0⟩)
abbrev s_p_is_integer : Stmt := topS 1
abbrev n_p_is_integer : List Str := ["thing"]
theorem zsc_p_is_integer : FnScope n_p_is_integer ["thing"] (defScope s_p_is_integer) := ⟨rfl, rfl, rfl, by decide +kernel, rfl, by decide +kernel, by decide +kernel⟩
theorem nd_p_is_integer : (n_p_is_integer : List Str).Nodup := by decide +kernel
abbrev s_p_freed : Stmt := topS 3
abbrev n_p_freed : List Str := ["house", "name", "least", "most"]
theorem zsc_p_freed : FnScope n_p_freed ["house"] (defScope s_p_freed) := ⟨rfl, rfl, rfl, by decide +kernel, rfl, by decide +kernel, by decide +kernel⟩
theorem nd_p_freed : (n_p_freed : List Str).Nodup := by decide +kernel
abbrev s_p_is_sort_name : Stmt := topS 4
abbrev n_p_is_sort_name : List Str := ["house", "thing", "name", "least", "most"]
theorem zsc_p_is_sort_name : FnScope n_p_is_sort_name ["house", "thing"] (defScope s_p_is_sort_name) := ⟨rfl, rfl, rfl, by decide +kernel, rfl, by decide +kernel, by decide +kernel⟩
theorem nd_p_is_sort_name : (n_p_is_sort_name : List Str).Nodup := by decide +kernel
abbrev s_p_is_deed : Stmt := topS 5
abbrev n_p_is_deed : List Str := ["house", "thing"]
theorem zsc_p_is_deed : FnScope n_p_is_deed ["house", "thing"] (defScope s_p_is_deed) := ⟨rfl, rfl, rfl, by decide +kernel, rfl, by decide +kernel, by decide +kernel⟩
theorem nd_p_is_deed : (n_p_is_deed : List Str).Nodup := by decide +kernel
abbrev s_p_is_script : Stmt := topS 6
abbrev n_p_is_script : List Str := ["house", "thing", "deed"]
theorem zsc_p_is_script : FnScope n_p_is_script ["house", "thing"] (defScope s_p_is_script) := ⟨rfl, rfl, rfl, by decide +kernel, rfl, by decide +kernel, by decide +kernel⟩
theorem nd_p_is_script : (n_p_is_script : List Str).Nodup := by decide +kernel
abbrev s_p_do_deed : Stmt := topS 7
abbrev n_p_do_deed : List Str := ["table", "deed", "rows", "number"]
theorem zsc_p_do_deed : FnScope n_p_do_deed ["table", "deed"] (defScope s_p_do_deed) := ⟨rfl, rfl, rfl, by decide +kernel, rfl, by decide +kernel, by decide +kernel⟩
theorem nd_p_do_deed : (n_p_do_deed : List Str).Nodup := by decide +kernel
abbrev s_p_done : Stmt := topS 8
abbrev n_p_done : List Str := ["house", "table", "script", "found", "name", "least", "most", "deed"]
theorem zsc_p_done : FnScope n_p_done ["house", "table", "script"] (defScope s_p_done) := ⟨rfl, rfl, rfl, by decide +kernel, rfl, by decide +kernel, by decide +kernel⟩
theorem nd_p_done : (n_p_done : List Str).Nodup := by decide +kernel
abbrev s_bag : Stmt := topS 10
abbrev n_bag : List Str := ["_law_script_here", "_law_cell"]
theorem zsc_bag : FnScope n_bag ["_law_script_here"] (defScope s_bag) := ⟨rfl, rfl, rfl, by decide +kernel, rfl, by decide +kernel, by decide +kernel⟩
theorem nd_bag : (n_bag : List Str).Nodup := by decide +kernel
abbrev s_take : Stmt := topS 11
abbrev n_take : List Str := ["_law_bag_here", "_law_many", "_law_cell", "_law_stirred", "_law_value", "_law_begin", "_law_second"]
theorem zsc_take : FnScope n_take ["_law_bag_here", "_law_many"] (defScope s_take) := ⟨rfl, rfl, rfl, by decide +kernel, rfl, by decide +kernel, by decide +kernel⟩
theorem nd_take : (n_take : List Str).Nodup := by decide +kernel
abbrev s_one : Stmt := topS 12
abbrev n_one : List Str := ["_law_bag_here", "_law_things"]
theorem zsc_one : FnScope n_one ["_law_bag_here", "_law_things"] (defScope s_one) := ⟨rfl, rfl, rfl, by decide +kernel, rfl, by decide +kernel, by decide +kernel⟩
theorem nd_one : (n_one : List Str).Nodup := by decide +kernel
abbrev s_mixed : Stmt := topS 13
abbrev n_mixed : List Str := ["_law_bag_here", "_law_things", "_law_found", "_law_thing"]
theorem zsc_mixed : FnScope n_mixed ["_law_bag_here", "_law_things"] (defScope s_mixed) := ⟨rfl, rfl, rfl, by decide +kernel, rfl, by decide +kernel, by decide +kernel⟩
theorem nd_mixed : (n_mixed : List Str).Nodup := by decide +kernel
abbrev s_alike : Stmt := topS 14
abbrev n_alike : List Str := ["_law_found", "_law_due"]
theorem zsc_alike : FnScope n_alike ["_law_found", "_law_due"] (defScope s_alike) := ⟨rfl, rfl, rfl, by decide +kernel, rfl, by decide +kernel, by decide +kernel⟩
theorem nd_alike : (n_alike : List Str).Nodup := by decide +kernel
abbrev s_names : Stmt := topS 15
abbrev n_names : List Str := ["_law_bag_here", "_law_many", "_law_menu"]
theorem zsc_names : FnScope n_names ["_law_bag_here", "_law_many"] (defScope s_names) := ⟨rfl, rfl, rfl, by decide +kernel, rfl, by decide +kernel, by decide +kernel⟩
theorem nd_names : (n_names : List Str).Nodup := by decide +kernel
abbrev s_sort : Stmt := topS 16
abbrev n_sort : List Str := ["_law_bag_here", "_law_name", "_law_way", "_law_few"]
theorem zsc_sort : FnScope n_sort ["_law_bag_here", "_law_name"] (defScope s_sort) := ⟨rfl, rfl, rfl, by decide +kernel, rfl, by decide +kernel, by decide +kernel⟩
theorem nd_sort : (n_sort : List Str).Nodup := by decide +kernel
abbrev s_house : Stmt := topS 17
abbrev n_house : List Str := ["_law_bag_here", "_law_most", "_law_name"]
theorem zsc_house : FnScope n_house ["_law_bag_here", "_law_most"] (defScope s_house) := ⟨rfl, rfl, rfl, by decide +kernel, rfl, by decide +kernel, by decide +kernel⟩
theorem nd_house : (n_house : List Str).Nodup := by decide +kernel
abbrev s_numbers : Stmt := topS 18
abbrev n_numbers : List Str := ["_law_bag_here", "_law_low", "_law_step", "_law_place"]
theorem zsc_numbers : FnScope n_numbers ["_law_bag_here"] (defScope s_numbers) := ⟨rfl, rfl, rfl, by decide +kernel, rfl, by decide +kernel, by decide +kernel⟩
theorem nd_numbers : (n_numbers : List Str).Nodup := by decide +kernel
abbrev s_size : Stmt := topS 19
abbrev n_size : List Str := ["_law_bag_here", "_law_sort_here", "_law_more", "_law_top"]
theorem zsc_size : FnScope n_size ["_law_bag_here", "_law_sort_here", "_law_more"] (defScope s_size) := ⟨rfl, rfl, rfl, by decide +kernel, rfl, by decide +kernel, by decide +kernel⟩
theorem nd_size : (n_size : List Str).Nodup := by decide +kernel
abbrev s_table : Stmt := topS 20
abbrev n_table : List Str := ["_law_bag_here", "_law_house_here", "_law_pool", "_law_more", "_law_found", "_law_sort_here", "_law_row"]
theorem zsc_table : FnScope n_table ["_law_bag_here", "_law_house_here", "_law_pool", "_law_more"] (defScope s_table) := ⟨rfl, rfl, rfl, by decide +kernel, rfl, by decide +kernel, by decide +kernel⟩
theorem nd_table : (n_table : List Str).Nodup := by decide +kernel
abbrev s_deed : Stmt := topS 21
abbrev n_deed : List Str := ["_law_bag_here", "_law_house_here", "_law_pool", "_law_most", "_law_names_here", "_law_sort_here", "_law_two", "_law_k", "_law_way"]
theorem zsc_deed : FnScope n_deed ["_law_bag_here", "_law_house_here", "_law_pool", "_law_most"] (defScope s_deed) := ⟨rfl, rfl, rfl, by decide +kernel, rfl, by decide +kernel, by decide +kernel⟩
theorem nd_deed : (n_deed : List Str).Nodup := by decide +kernel
abbrev s_script : Stmt := topS 22
abbrev n_script : List Str := ["_law_bag_here", "_law_house_here", "_law_pool", "_law_many", "_law_most", "_law_turn"]
theorem zsc_script : FnScope n_script ["_law_bag_here", "_law_house_here", "_law_pool", "_law_many", "_law_most"] (defScope s_script) := ⟨rfl, rfl, rfl, by decide +kernel, rfl, by decide +kernel, by decide +kernel⟩
theorem nd_script : (n_script : List Str).Nodup := by decide +kernel
abbrev s_done : Stmt := topS 23
abbrev n_done : List Str := ["_law_table_here", "_law_script_here", "_law_rows", "_law_name", "_law_deed_here", "_law_own", "_law_word", "_law_gone"]
theorem zsc_done : FnScope n_done ["_law_table_here", "_law_script_here"] (defScope s_done) := ⟨rfl, rfl, rfl, by decide +kernel, rfl, by decide +kernel, by decide +kernel⟩
theorem nd_done : (n_done : List Str).Nodup := by decide +kernel
abbrev s_in : Stmt := topS 24
abbrev n_in : List Str := ["_law_things", "_law_thing", "_law_one_here"]
theorem zsc_in : FnScope n_in ["_law_things", "_law_thing"] (defScope s_in) := ⟨rfl, rfl, rfl, by decide +kernel, rfl, by decide +kernel, by decide +kernel⟩
theorem nd_in : (n_in : List Str).Nodup := by decide +kernel
abbrev s_is_whole : Stmt := topS 25
abbrev n_is_whole : List Str := ["_law_thing", "_law_least"]
theorem zsc_is_whole : FnScope n_is_whole ["_law_thing", "_law_least"] (defScope s_is_whole) := ⟨rfl, rfl, rfl, by decide +kernel, rfl, by decide +kernel, by decide +kernel⟩
theorem nd_is_whole : (n_is_whole : List Str).Nodup := by decide +kernel
abbrev s_is_deed : Stmt := topS 26
abbrev n_is_deed : List Str := ["_law_house_here", "_law_thing", "_law_names_here", "_law_sort_here"]
theorem zsc_is_deed : FnScope n_is_deed ["_law_house_here", "_law_thing"] (defScope s_is_deed) := ⟨rfl, rfl, rfl, by decide +kernel, rfl, by decide +kernel, by decide +kernel⟩
theorem nd_is_deed : (n_is_deed : List Str).Nodup := by decide +kernel
abbrev s_freed : Stmt := topS 27
abbrev n_freed : List Str := ["_law_house_here", "_law_sort_here"]
theorem zsc_freed : FnScope n_freed ["_law_house_here"] (defScope s_freed) := ⟨rfl, rfl, rfl, by decide +kernel, rfl, by decide +kernel, by decide +kernel⟩
theorem nd_freed : (n_freed : List Str).Nodup := by decide +kernel
abbrev s_other_deed : Stmt := topS 28
abbrev n_other_deed : List Str := ["_law_bag_here", "_law_house_here", "_law_deed_here", "_law_names_here", "_law_sort_here", "_law_menu", "_law_one_here"]
theorem zsc_other_deed : FnScope n_other_deed ["_law_bag_here", "_law_house_here", "_law_deed_here"] (defScope s_other_deed) := ⟨rfl, rfl, rfl, by decide +kernel, rfl, by decide +kernel, by decide +kernel⟩
theorem nd_other_deed : (n_other_deed : List Str).Nodup := by decide +kernel
abbrev s_are_judged : Stmt := topS 29
abbrev n_are_judged : List Str := ["_law_bag_here", "_law_house_here", "_law_script_here", "_law_things", "_law_deed_here", "_law_thing", "_law_at", "_law_some", "_law_due"]
theorem zsc_are_judged : FnScope n_are_judged ["_law_bag_here", "_law_house_here", "_law_script_here"] (defScope s_are_judged) := ⟨rfl, rfl, rfl, by decide +kernel, rfl, by decide +kernel, by decide +kernel⟩
theorem nd_are_judged : (n_are_judged : List Str).Nodup := by decide +kernel
abbrev s_p_law : Stmt := topS 30
abbrev n_p_law : List Str := ["_law_script_here", "_law_bag_here", "_law_turn", "_law_house_here", "_law_pool", "_law_table_here", "_law_deeds", "_law_shown", "_law_due", "_law_again", "_law_told", "_law_at"]
theorem zsc_p_law : FnScope n_p_law ["_law_script_here"] (defScope s_p_law) := ⟨rfl, rfl, rfl, by decide +kernel, rfl, by decide +kernel, by decide +kernel⟩
theorem nd_p_law : (n_p_law : List Str).Nodup := by decide +kernel
theorem w_p_is_integer {T : Top} (bn : Bn T) {f : Addr} {cdv : Value} {A : Around} {outer : List Env} {s : Shared} {H : Hp} {E : XK} (hr : RoomZ 0 (A.deeper (envOfC "is_integer" (defScope s_p_is_integer) s.heap.objs.size f cdv))) : SSs (dcxX T "is_integer" s_p_is_integer n_p_is_integer f cdv A outer s H E) (defBody s_p_is_integer) g_p_is_integer := by
  have nd := nd_p_is_integer
  exact (ss_cons (ss_ret (se_and (se_isi (T := "int") bn.isinstance bn.int bt_int (by decide) (se_nm 0)) (se_one (se_not (se_isi (T := "bool") bn.isinstance bn.bool bt_bool (by decide) (se_nm 0))))))
    ss_nil)
theorem fs_p_is_integer {T : Top} (bn : Bn T) (d : DefAt T "is_integer" s_p_is_integer) : Fs T 1 "is_integer" ["thing"] F_p_is_integer := fs_of (k := 0) (st := s_p_is_integer) (N := n_p_is_integer) (G := g_p_is_integer) (fin := finD) finD_sound finD_ex d zsc_p_is_integer (fun _ _ _ _ _ _ us hl => match us, hl with | [_], _ => rfl) (fun f cdv A outer s H E => @w_p_is_integer T bn f cdv A outer s H E)
theorem w_p_freed {T : Top} (bn : Bn T) {f : Addr} {cdv : Value} {A : Around} {outer : List Env} {s : Shared} {H : Hp} {E : XK} (hr : RoomZ 0 (A.deeper (envOfC "freed" (defScope s_p_freed) s.heap.objs.size f cdv))) : SSs (dcxX T "freed" s_p_freed n_p_freed f cdv A outer s H E) (defBody s_p_freed) g_p_freed := by
  have nd := nd_p_freed
  refine ss_cons ?_ ?_
  · refine ss_ret ?_
    refine se_tuple bn.tuple ?_
    refine se_lc (own := [("name", 1), ("least", 2), ("most", 3)]) rfl nd (blkOk_by (by first | (show blkC n_p_freed (defScope s_p_freed) _ _ = true; decide +kernel) | rfl)) ?_ ?_ ?_ ?_
    · refine si_seq ?_
      exact se_nm 0
    · intro B
      refine sgb_tup rfl ?_
      refine sgbs_cons ?_ ?_
      · exact sgb_nm 1 nd
      refine sgbs_cons ?_ ?_
      · exact sgb_nm 2 nd
      refine sgbs_cons ?_ ?_
      · exact sgb_nm 3 nd
      exact sgbs_nil
    · intro B
      exact sts_nil
    intro B
    refine se_tup ?_
    refine sa_cons ?_ ?_
    · exact se_nm 1
    refine sa_cons ?_ ?_
    · exact se_int
    refine sa_cons ?_ ?_
    · exact se_non
    exact sa_nil
  exact ss_nil
theorem fs_p_freed {T : Top} (bn : Bn T) (d : DefAt T "freed" s_p_freed) : Fs T 1 "freed" ["house"] F_p_freed := fs_of (k := 0) (st := s_p_freed) (N := n_p_freed) (G := g_p_freed) (fin := finD) finD_sound finD_ex d zsc_p_freed (fun _ _ _ _ _ _ us hl => match us, hl with | [_], _ => rfl) (fun f cdv A outer s H E => @w_p_freed T bn f cdv A outer s H E)
theorem w_p_is_sort_name {T : Top} (bn : Bn T) {f : Addr} {cdv : Value} {A : Around} {outer : List Env} {s : Shared} {H : Hp} {E : XK} (hr : RoomZ 0 (A.deeper (envOfC "is_sort_name" (defScope s_p_is_sort_name) s.heap.objs.size f cdv))) : SSs (dcxX T "is_sort_name" s_p_is_sort_name n_p_is_sort_name f cdv A outer s H E) (defBody s_p_is_sort_name) g_p_is_sort_name := by
  have nd := nd_p_is_sort_name
  refine ss_cons ?_ ?_
  · refine ss_ret ?_
    refine se_and ?_ ?_
    · refine se_isi (T := "str") bn.isinstance bn.str bt_str (by decide) ?_
      exact se_nm 1
    refine se_one ?_
    refine se_cmp (sc_in hr) ?_ ?_
    · exact se_nm 1
    refine se_lc (own := [("name", 2), ("least", 3), ("most", 4)]) rfl nd (blkOk_by (by first | (show blkC n_p_is_sort_name (defScope s_p_is_sort_name) _ _ = true; decide +kernel) | rfl)) ?_ ?_ ?_ ?_
    · refine si_seq ?_
      exact se_nm 0
    · intro B
      refine sgb_tup rfl ?_
      refine sgbs_cons ?_ ?_
      · exact sgb_nm 2 nd
      refine sgbs_cons ?_ ?_
      · exact sgb_nm 3 nd
      refine sgbs_cons ?_ ?_
      · exact sgb_nm 4 nd
      exact sgbs_nil
    · intro B
      exact sts_nil
    intro B
    exact se_nm 2
  exact ss_nil
theorem fs_p_is_sort_name {T : Top} (bn : Bn T) (d : DefAt T "is_sort_name" s_p_is_sort_name) : Fs T 1 "is_sort_name" ["house", "thing"] F_p_is_sort_name := fs_of (k := 0) (st := s_p_is_sort_name) (N := n_p_is_sort_name) (G := g_p_is_sort_name) (fin := finD) finD_sound finD_ex d zsc_p_is_sort_name (fun _ _ _ _ _ _ us hl => match us, hl with | [_, _], _ => rfl) (fun f cdv A outer s H E => @w_p_is_sort_name T bn f cdv A outer s H E)
theorem w_p_is_deed {T : Top} (bn : Bn T) (c_p_is_sort_name : Fs T 1 "is_sort_name" ["house", "thing"] F_p_is_sort_name) (c_p_is_integer : Fs T 1 "is_integer" ["thing"] F_p_is_integer) {f : Addr} {cdv : Value} {A : Around} {outer : List Env} {s : Shared} {H : Hp} {E : XK} (hr : RoomZ 1 (A.deeper (envOfC "is_deed" (defScope s_p_is_deed) s.heap.objs.size f cdv))) : SSs (dcxX T "is_deed" s_p_is_deed n_p_is_deed f cdv A outer s H E) (defBody s_p_is_deed) g_p_is_deed := by
  have nd := nd_p_is_deed
  exact (ss_cons (ss_if (st_w (sw_or (st_not (st_val (se_isi (T := "tuple") bn.isinstance bn.tuple bt_tuple (by decide) (se_nm 1)))) (sw_or (st_cmp sc_lt (se_len bn.len (se_nm 1)) se_int) (sw_or1 (st_not (st_val (se_isi (T := "str") bn.isinstance bn.str bt_str (by decide) (se_ix hr (se_nm 1) se_int)))))))) (ss_cons (ss_ret se_bl)
    ss_nil) ss_nil)
    (ss_cons (ss_if (st_not (st_val (se_call (c_p_is_sort_name.mono (by decide)) ⟨rfl, rfl, rfl, rfl, rfl⟩ hr (sa_cons (se_nm 0) (sa_cons (se_ix hr (se_nm 1) se_int) sa_nil)) rfl (lenA_cons (lenA_cons lenA_nil))))) (ss_cons (ss_ret se_bl)
    ss_nil) ss_nil)
    (ss_cons (ss_if (st_cmp (sc_eq hr) (se_ix hr (se_nm 1) se_int) se_str) (ss_cons (ss_ret (se_and (se_cmp (sc_eq hr) (se_len bn.len (se_nm 1)) se_int) (se_and (se_call (c_p_is_sort_name.mono (by decide)) ⟨rfl, rfl, rfl, rfl, rfl⟩ hr (sa_cons (se_nm 0) (sa_cons (se_ix hr (se_nm 1) se_int) sa_nil)) rfl (lenA_cons (lenA_cons lenA_nil))) (se_one (se_cmp (sc_ne hr) (se_ix hr (se_nm 1) se_int) (se_ix hr (se_nm 1) se_int))))))
    ss_nil) ss_nil)
    (ss_cons (ss_if (st_not (st_val (se_call (c_p_is_integer.mono (by decide)) ⟨rfl, rfl, rfl, rfl, rfl⟩ hr (sa_cons (se_ix hr (se_nm 1) se_int) sa_nil) rfl (lenA_cons lenA_nil)))) (ss_cons (ss_ret se_bl)
    ss_nil) ss_nil)
    (ss_cons (ss_if (st_cmp (sc_eq hr) (se_ix hr (se_nm 1) se_int) se_str) (ss_cons (ss_ret (se_cmp (sc_eq hr) (se_len bn.len (se_nm 1)) se_int))
    ss_nil) ss_nil)
    (ss_cons (ss_if (st_cmp (sc_eq hr) (se_ix hr (se_nm 1) se_int) se_str) (ss_cons (ss_ret (se_and (se_cmp (sc_eq hr) (se_len bn.len (se_nm 1)) se_int) (se_and (se_cmp sc_gt (se_ix hr (se_nm 1) se_int) se_int) (se_and (se_call (c_p_is_sort_name.mono (by decide)) ⟨rfl, rfl, rfl, rfl, rfl⟩ hr (sa_cons (se_nm 0) (sa_cons (se_ix hr (se_nm 1) se_int) sa_nil)) rfl (lenA_cons (lenA_cons lenA_nil))) (se_one (se_cmp (sc_ne hr) (se_ix hr (se_nm 1) se_int) (se_ix hr (se_nm 1) se_int)))))))
    ss_nil) ss_nil)
    (ss_cons (ss_if (st_cmp (sc_ne hr) (se_len bn.len (se_nm 1)) se_int) (ss_cons (ss_ret se_bl)
    ss_nil) ss_nil)
    (ss_cons (ss_ret (se_or (se_and (se_cmp (sc_eq hr) (se_ix hr (se_nm 1) se_int) se_str) (se_one (se_cmp sc_gt (se_ix hr (se_nm 1) se_int) se_int))) (se_one (se_and (se_cmp (sc_eq hr) (se_ix hr (se_nm 1) se_int) se_str) (se_one (se_cmp sc_ge (se_ix hr (se_nm 1) se_int) se_int))))))
    ss_nil))))))))
theorem fs_p_is_deed {T : Top} (bn : Bn T) (d : DefAt T "is_deed" s_p_is_deed) (c_p_is_sort_name : Fs T 1 "is_sort_name" ["house", "thing"] F_p_is_sort_name) (c_p_is_integer : Fs T 1 "is_integer" ["thing"] F_p_is_integer) : Fs T 2 "is_deed" ["house", "thing"] F_p_is_deed := fs_of (k := 1) (st := s_p_is_deed) (N := n_p_is_deed) (G := g_p_is_deed) (fin := finD) finD_sound finD_ex d zsc_p_is_deed (fun _ _ _ _ _ _ us hl => match us, hl with | [_, _], _ => rfl) (fun f cdv A outer s H E => @w_p_is_deed T bn c_p_is_sort_name c_p_is_integer f cdv A outer s H E)
theorem w_p_is_script {T : Top} (bn : Bn T) (c_p_is_deed : Fs T 2 "is_deed" ["house", "thing"] F_p_is_deed) {f : Addr} {cdv : Value} {A : Around} {outer : List Env} {s : Shared} {H : Hp} {E : XK} (hr : RoomZ 2 (A.deeper (envOfC "is_script" (defScope s_p_is_script) s.heap.objs.size f cdv))) : SSs (dcxX T "is_script" s_p_is_script n_p_is_script f cdv A outer s H E) (defBody s_p_is_script) g_p_is_script := by
  have nd := nd_p_is_script
  exact (ss_cons (ss_ret (se_and (se_isi (T := "tuple") bn.isinstance bn.tuple bt_tuple (by decide) (se_nm 1)) (se_one (se_all bn.all rfl (se_lc (own := [("deed", 2)]) rfl nd (blkOk_by (by first | (show blkC n_p_is_script (defScope s_p_is_script) _ _ = true; decide +kernel) | rfl)) (si_seq (se_nm 1)) (fun B => (sgb_nm 2 nd)) (fun B => sts_nil) (fun B => (se_call (c_p_is_deed.mono (by decide)) ⟨rfl, rfl, rfl, rfl, rfl⟩ hr (sa_cons (se_nm 0) (sa_cons (se_nm 2) sa_nil)) rfl (lenA_cons (lenA_cons lenA_nil)))))))))
    ss_nil)
theorem fs_p_is_script {T : Top} (bn : Bn T) (d : DefAt T "is_script" s_p_is_script) (c_p_is_deed : Fs T 2 "is_deed" ["house", "thing"] F_p_is_deed) : Fs T 3 "is_script" ["house", "thing"] F_p_is_script := fs_of (k := 2) (st := s_p_is_script) (N := n_p_is_script) (G := g_p_is_script) (fin := finD) finD_sound finD_ex d zsc_p_is_script (fun _ _ _ _ _ _ us hl => match us, hl with | [_, _], _ => rfl) (fun f cdv A outer s H E => @w_p_is_script T bn c_p_is_deed f cdv A outer s H E)
theorem w_p_do_deed {T : Top} (bn : Bn T) {f : Addr} {cdv : Value} {A : Around} {outer : List Env} {s : Shared} {H : Hp} {E : XK} (hr : RoomZ 0 (A.deeper (envOfC "do_deed" (defScope s_p_do_deed) s.heap.objs.size f cdv))) : SSs (dcxX T "do_deed" s_p_do_deed n_p_do_deed f cdv A outer s H E) (defBody s_p_do_deed) g_p_do_deed := by
  have nd := nd_p_do_deed
  exact (ss_cons (ss_set 2 (se_ix hr (se_nm 0) (se_ix hr (se_nm 1) se_int)) nd)
    (ss_cons (ss_if (st_cmp (sc_eq hr) (se_ix hr (se_nm 1) se_int) se_str) (ss_cons (ss_asg (se_sortedM bn.sorted (se_lst (sa_star (se_nm 2) (sa_cons (se_ix hr (se_nm 1) se_int) sa_nil)))) (sg_sub hr (se_nm 0) (se_ix hr (se_nm 1) se_int)))
    ss_nil) (ss_cons (ss_if (st_cmp (sc_eq hr) (se_ix hr (se_nm 1) se_int) se_str) (ss_cons (ss_asg (se_sortedM bn.sorted (se_bin so_add (se_ix hr (se_nm 0) (se_ix hr (se_nm 1) se_int)) (se_nm 2))) (sg_sub hr (se_nm 0) (se_ix hr (se_nm 1) se_int)))
    (ss_cons (ss_asg (se_lstM sa_nil) (sg_sub hr (se_nm 0) (se_ix hr (se_nm 1) se_int)))
    ss_nil)) (ss_cons (ss_if (st_cmp (sc_eq hr) (se_ix hr (se_nm 1) se_int) se_str) (ss_cons (ss_asg (se_slM (se_nm 2) (sp_some (se_max2 bn.max rfl se_int (se_bin so_sub (se_len bn.len (se_nm 2)) (se_ix hr (se_nm 1) se_int)))) sp_none) (sg_sub hr (se_nm 0) (se_ix hr (se_nm 1) se_int)))
    ss_nil) (ss_cons (ss_if (st_cmp sc_ge (se_len bn.len (se_nm 2)) (se_ix hr (se_nm 1) se_int)) (ss_cons (ss_set 3 (se_popAt (se_nm 2) (se_bin so_sub (se_len bn.len (se_nm 2)) (se_ix hr (se_nm 1) se_int))) nd)
    (ss_cons (ss_if (st_cmp (sc_eq hr) (se_ix hr (se_nm 1) se_int) se_str) (ss_cons (ss_asg (se_sortedM bn.sorted (se_lst (sa_star (se_ix hr (se_nm 0) (se_ix hr (se_nm 1) se_int)) (sa_cons (se_nm 3) sa_nil)))) (sg_sub hr (se_nm 0) (se_ix hr (se_nm 1) se_int)))
    ss_nil) ss_nil)
    ss_nil)) ss_nil)
    ss_nil))
    ss_nil))
    ss_nil))
    ss_nil))
theorem fs_p_do_deed {T : Top} (bn : Bn T) (d : DefAt T "do_deed" s_p_do_deed) : Fs T 1 "do_deed" ["table", "deed"] F_p_do_deed := fs_of (k := 0) (st := s_p_do_deed) (N := n_p_do_deed) (G := g_p_do_deed) (fin := finI) finI_sound finI_ex d zsc_p_do_deed (fun _ _ _ _ _ _ us hl => match us, hl with | [_, _], _ => rfl) (fun f cdv A outer s H E => @w_p_do_deed T bn f cdv A outer s H E)
theorem w_p_done {T : Top} (bn : Bn T) (c_p_do_deed : Fs T 1 "do_deed" ["table", "deed"] F_p_do_deed) {f : Addr} {cdv : Value} {A : Around} {outer : List Env} {s : Shared} {H : Hp} {E : XK} (hr : RoomZ 1 (A.deeper (envOfC "done" (defScope s_p_done) s.heap.objs.size f cdv))) : SSs (dcxX T "done" s_p_done n_p_done f cdv A outer s H E) (defBody s_p_done) g_p_done := by
  have nd := nd_p_done
  refine ss_cons ?_ ?_
  · refine ss_set 3 ?_ ?_ ?_ ?_ ?_ ?_
    rotate_left 1
    · exact nd
    · rfl
    · first | exact Or.inl rfl | exact Or.inr rfl
    · rfl
    · first | exact Or.inl rfl | exact Or.inr rfl
    refine se_dc (own := [("name", 4), ("least", 5), ("most", 6)]) rfl nd (blkOk_by (by first | (show blkC n_p_done (defScope s_p_done) _ _ = true; decide +kernel) | rfl)) ?_ ?_ ?_ ?_ ?_
    · refine si_seq ?_
      exact se_nm 0
    · intro B
      refine sgb_tup rfl ?_
      refine sgbs_cons ?_ ?_
      · exact sgb_nm 4 nd
      refine sgbs_cons ?_ ?_
      · exact sgb_nm 5 nd
      refine sgbs_cons ?_ ?_
      · exact sgb_nm 6 nd
      exact sgbs_nil
    · intro B
      exact sts_nil
    · intro B
      exact se_nm 4
    intro B
    refine se_listM bn.list ?_
    refine se_ix hr ?_ ?_
    · exact se_nm 1
    exact se_nm 4
  refine ss_cons ?_ ?_
  · refine ss_for dcx_pass rfl ?_ ?_ ?_
    · refine si_seq ?_
      exact se_nm 2
    · exact sg_nm 7 nd
    refine ss_cons ?_ ?_
    · refine ss_expr ?_
      refine se_call (c_p_do_deed.mono (by decide)) ⟨rfl, rfl, rfl, rfl, rfl⟩ hr ?_ rfl (lenA_cons (lenA_cons lenA_nil))
      refine sa_cons ?_ ?_
      · exact se_nm 3
      refine sa_cons ?_ ?_
      · exact se_nm 7
      exact sa_nil
    exact ss_nil
  refine ss_cons ?_ ?_
  · refine ss_ret ?_
    refine se_dcM (own := [("name", 4)]) rfl nd (blkOk_by (by first | (show blkC n_p_done (defScope s_p_done) _ _ = true; decide +kernel) | rfl)) ?_ ?_ ?_ ?_ ?_
    · refine si_seq ?_
      refine se_altV ?_ ?_
      · refine se_sorted bn.sorted ?_
        exact se_nm 3
      refine se_sortedD bn.sorted rfl ?_
      exact se_nm 3
    · intro B
      exact sgb_nm 4 nd
    · intro B
      exact sts_nil
    · intro B
      exact se_nm 4
    intro B
    refine se_tuple bn.tuple ?_
    refine se_ix hr ?_ ?_
    · exact se_nm 3
    exact se_nm 4
  exact ss_nil
theorem fs_p_done {T : Top} (bn : Bn T) (d : DefAt T "done" s_p_done) (c_p_do_deed : Fs T 1 "do_deed" ["table", "deed"] F_p_do_deed) : Fs T 2 "done" ["house", "table", "script"] F_p_done := fs_of (k := 1) (st := s_p_done) (N := n_p_done) (G := g_p_done) (fin := finD) finD_sound finD_ex d zsc_p_done (fun _ _ _ _ _ _ us hl => match us, hl with | [_, _, _], _ => rfl) (fun f cdv A outer s H E => @w_p_done T bn c_p_do_deed f cdv A outer s H E)
theorem fs_p_done_M {T : Top} (bn : Bn T) (d : DefAt T "done" s_p_done) (c_p_do_deed : Fs T 1 "do_deed" ["table", "deed"] F_p_do_deed) : Fs T 2 "done" ["house", "table", "script"] F_p_done_M := fs_of (k := 1) (st := s_p_done) (N := n_p_done) (G := g_p_done) (fin := finM) finM_sound finM_ex d zsc_p_done (fun _ _ _ _ _ _ us hl => match us, hl with | [_, _, _], _ => rfl) (fun f cdv A outer s H E => @w_p_done T bn c_p_do_deed f cdv A outer s H E)
theorem w_take {T : Top} (bn : Bn T) {f : Addr} {cdv : Value} {A : Around} {outer : List Env} {s : Shared} {H : Hp} {E : XK} (hr : RoomZ 0 (A.deeper (envOfC "_law_take" (defScope s_take) s.heap.objs.size f cdv))) : SSs (dcxX T "_law_take" s_take n_take f cdv A outer s H E) (defBody s_take) g_take := by
  have nd := nd_take
  exact (ss_cons (ss_if (st_cmp (sc_eq hr) (se_ix hr (se_nm 0) se_int) se_int) (ss_cons (ss_set 2 (se_ix hr (se_bin so_add (se_sl (se_ix hr (se_nm 0) se_int) (sp_some (se_ix hr (se_nm 0) se_int)) sp_none) (se_lst (sa_cons se_int sa_nil))) se_int) nd)
    (ss_cons (ss_augS hr ip_add (se_nm 0) se_int se_int)
    (ss_cons (ss_if (st_cmp sc_ge (se_nm 2) (se_bin so_pow se_int se_int)) (ss_cons (ss_asg (se_nm 2) (sg_sub hr (se_nm 0) se_int))
    ss_nil) ss_nil)
    (ss_cons (ss_set 3 (se_bin so_add (se_bin so_add (se_bin so_mul (se_ix hr (se_nm 0) se_int) se_int) (se_bin so_mod (se_toint bn.int (se_nm 2)) se_int)) (se_bin so_mul se_int (se_ix hr (se_nm 0) se_int))) nd)
    (ss_cons (ss_asg (se_bin so_mod (se_toint bn.int (se_nm 3)) se_int) (sg_sub hr (se_nm 0) se_int))
    ss_nil))))) ss_nil)
    (ss_cons (ss_if (st_cmp sc_gt (se_ix hr (se_nm 0) se_int) se_int) (ss_cons (ss_set 4 (se_bin so_mod (se_toint bn.int (se_ix hr (se_nm 0) se_int)) (se_nm 1)) nd)
    (ss_cons (ss_asg (se_bin so_fdiv (se_toint bn.int (se_ix hr (se_nm 0) se_int)) (se_nm 1)) (sg_sub hr (se_nm 0) se_int))
    (ss_cons (ss_ret (se_nm 4))
    ss_nil))) ss_nil)
    (ss_cons (ss_set 5 (se_bin so_mod (se_toint bn.int (se_bin so_mul (se_bin so_add (se_ix hr (se_nm 0) se_int) se_int) se_int)) se_int) nd)
    (ss_cons (ss_set 6 (se_bin so_mod (se_toint bn.int (se_bin so_mul (se_bin so_mod (se_toint bn.int (se_bin so_mul (se_nm 5) (se_nm 5))) se_int) se_int)) se_int) nd)
    (ss_cons (ss_ret (se_bin so_mod (se_toint bn.int (se_bin so_fdiv (se_nm 6) se_int)) (se_nm 1)))
    ss_nil)))))
theorem fs_take {T : Top} (bn : Bn T) (d : DefAt T "_law_take" s_take) : Fs T 1 "_law_take" ["_law_bag_here", "_law_many"] F_take := fs_of (k := 0) (st := s_take) (N := n_take) (G := g_take) (fin := finD) finD_sound finD_ex d zsc_take (fun _ _ _ _ _ _ us hl => match us, hl with | [_, _], _ => rfl) (fun f cdv A outer s H E => @w_take T bn f cdv A outer s H E)
theorem w_one {T : Top} (bn : Bn T) (c_take : Fs T 1 "_law_take" ["_law_bag_here", "_law_many"] F_take) {f : Addr} {cdv : Value} {A : Around} {outer : List Env} {s : Shared} {H : Hp} {E : XK} (hr : RoomZ 1 (A.deeper (envOfC "_law_one" (defScope s_one) s.heap.objs.size f cdv))) : SSs (dcxX T "_law_one" s_one n_one f cdv A outer s H E) (defBody s_one) g_one := by
  have nd := nd_one
  exact (ss_cons (ss_ret (se_ix hr (se_nm 1) (se_call (c_take.mono (by decide)) ⟨rfl, rfl, rfl, rfl, rfl⟩ hr (sa_cons (se_nm 0) (sa_cons (se_len bn.len (se_nm 1)) sa_nil)) rfl (lenA_cons (lenA_cons lenA_nil)))))
    ss_nil)
theorem fs_one {T : Top} (bn : Bn T) (d : DefAt T "_law_one" s_one) (c_take : Fs T 1 "_law_take" ["_law_bag_here", "_law_many"] F_take) : Fs T 2 "_law_one" ["_law_bag_here", "_law_things"] F_one := fs_of (k := 1) (st := s_one) (N := n_one) (G := g_one) (fin := finD) finD_sound finD_ex d zsc_one (fun _ _ _ _ _ _ us hl => match us, hl with | [_, _], _ => rfl) (fun f cdv A outer s H E => @w_one T bn c_take f cdv A outer s H E)
theorem w_mixed {T : Top} (bn : Bn T) (c_take : Fs T 1 "_law_take" ["_law_bag_here", "_law_many"] F_take) {f : Addr} {cdv : Value} {A : Around} {outer : List Env} {s : Shared} {H : Hp} {E : XK} (hr : RoomZ 1 (A.deeper (envOfC "_law_mixed" (defScope s_mixed) s.heap.objs.size f cdv))) : SSs (dcxX T "_law_mixed" s_mixed n_mixed f cdv A outer s H E) (defBody s_mixed) g_mixed := by
  have nd := nd_mixed
  exact (ss_cons (ss_set 2 (se_lstM sa_nil) nd)
    (ss_cons (ss_for dcx_pass rfl (si_seq (se_nm 1)) (sg_nm 3 nd) (ss_cons (ss_expr (se_insert (se_nm 2) (se_call (c_take.mono (by decide)) ⟨rfl, rfl, rfl, rfl, rfl⟩ hr (sa_cons (se_nm 0) (sa_cons (se_bin so_add (se_len bn.len (se_nm 2)) se_int) sa_nil)) rfl (lenA_cons (lenA_cons lenA_nil))) (se_nm 3)))
    ss_nil))
    (ss_cons (ss_ret (se_nm 2))
    ss_nil)))
theorem fs_mixed {T : Top} (bn : Bn T) (d : DefAt T "_law_mixed" s_mixed) (c_take : Fs T 1 "_law_take" ["_law_bag_here", "_law_many"] F_take) : Fs T 2 "_law_mixed" ["_law_bag_here", "_law_things"] F_mixed := fs_of (k := 1) (st := s_mixed) (N := n_mixed) (G := g_mixed) (fin := finD) finD_sound finD_ex d zsc_mixed (fun _ _ _ _ _ _ us hl => match us, hl with | [_, _], _ => rfl) (fun f cdv A outer s H E => @w_mixed T bn c_take f cdv A outer s H E)
theorem w_alike {T : Top} (bn : Bn T) {f : Addr} {cdv : Value} {A : Around} {outer : List Env} {s : Shared} {H : Hp} {E : XK} (hr : RoomZ 0 (A.deeper (envOfC "_law_alike" (defScope s_alike) s.heap.objs.size f cdv))) : SSs (dcxX T "_law_alike" s_alike n_alike f cdv A outer s H E) (defBody s_alike) g_alike := by
  have nd := nd_alike
  exact (ss_cons (ss_ret (se_and (se_altC (se_cmp (sc_eq hr) (se_nm 0) (se_nm 1)) (se_cmp (sc_eqX hr) (se_nm 0) (se_nm 1))) (se_one (se_cmp (sc_eq hr) (se_repr hr bn.sys bn.repr (se_nm 0)) (se_repr hr bn.sys bn.repr (se_nm 1))))))
    ss_nil)
theorem fs_alike {T : Top} (bn : Bn T) (d : DefAt T "_law_alike" s_alike) : Fs T 1 "_law_alike" ["_law_found", "_law_due"] F_alike := fs_of (k := 0) (st := s_alike) (N := n_alike) (G := g_alike) (fin := finD) finD_sound finD_ex d zsc_alike (fun _ _ _ _ _ _ us hl => match us, hl with | [_, _], _ => rfl) (fun f cdv A outer s H E => @w_alike T bn f cdv A outer s H E)
theorem w_names {T : Top} (bn : Bn T) (c_mixed : Fs T 2 "_law_mixed" ["_law_bag_here", "_law_things"] F_mixed) {f : Addr} {cdv : Value} {A : Around} {outer : List Env} {s : Shared} {H : Hp} {E : XK} (hr : RoomZ 2 (A.deeper (envOfC "_law_names" (defScope s_names) s.heap.objs.size f cdv))) : SSs (dcxX T "_law_names" s_names n_names f cdv A outer s H E) (defBody s_names) g_names := by
  have nd := nd_names
  refine ss_cons ?_ ?_
  · refine ss_set 2 ?_ ?_ ?_ ?_ ?_ ?_
    rotate_left 1
    · exact nd
    · rfl
    · first | exact Or.inl rfl | exact Or.inr rfl
    · rfl
    · first | exact Or.inl rfl | exact Or.inr rfl
    refine se_lst ?_
    refine sa_cons ?_ ?_
    · exact se_str
    refine sa_cons ?_ ?_
    · exact se_str
    refine sa_cons ?_ ?_
    · exact se_str
    refine sa_cons ?_ ?_
    · exact se_str
    refine sa_cons ?_ ?_
    · exact se_str
    refine sa_cons ?_ ?_
    · exact se_str
    refine sa_cons ?_ ?_
    · exact se_str
    refine sa_cons ?_ ?_
    · exact se_str
    refine sa_cons ?_ ?_
    · exact se_str
    refine sa_cons ?_ ?_
    · exact se_str
    refine sa_cons ?_ ?_
    · exact se_str
    refine sa_cons ?_ ?_
    · exact se_str
    refine sa_cons ?_ ?_
    · exact se_str
    exact sa_nil
  refine ss_cons ?_ ?_
  · refine ss_set 2 ?_ ?_ ?_ ?_ ?_ ?_
    rotate_left 1
    · exact nd
    · rfl
    · first | exact Or.inl rfl | exact Or.inr rfl
    · rfl
    · first | exact Or.inl rfl | exact Or.inr rfl
    refine se_bin so_add ?_ ?_
    · exact se_nm 2
    refine se_lst ?_
    refine sa_cons ?_ ?_
    · exact se_str
    refine sa_cons ?_ ?_
    · exact se_str
    refine sa_cons ?_ ?_
    · exact se_str
    refine sa_cons ?_ ?_
    · exact se_str
    exact sa_nil
  refine ss_cons ?_ ?_
  · refine ss_ret ?_
    refine se_tuple bn.tuple ?_
    refine se_altV ?_ ?_
    · refine se_sorted bn.sorted ?_
      refine se_sl ?_ ?_ ?_
      · refine se_call (c_mixed.mono (by decide)) ⟨rfl, rfl, rfl, rfl, rfl⟩ hr ?_ rfl (lenA_cons (lenA_cons lenA_nil))
        refine sa_cons ?_ ?_
        · exact se_nm 0
        refine sa_cons ?_ ?_
        · exact se_nm 2
        exact sa_nil
      · exact sp_none
      refine sp_some ?_
      exact se_nm 1
    refine se_sortedD bn.sorted rfl ?_
    refine se_sl ?_ ?_ ?_
    · refine se_call (c_mixed.mono (by decide)) ⟨rfl, rfl, rfl, rfl, rfl⟩ hr ?_ rfl (lenA_cons (lenA_cons lenA_nil))
      refine sa_cons ?_ ?_
      · exact se_nm 0
      refine sa_cons ?_ ?_
      · exact se_nm 2
      exact sa_nil
    · exact sp_none
    refine sp_some ?_
    exact se_nm 1
  exact ss_nil
theorem fs_names {T : Top} (bn : Bn T) (d : DefAt T "_law_names" s_names) (c_mixed : Fs T 2 "_law_mixed" ["_law_bag_here", "_law_things"] F_mixed) : Fs T 3 "_law_names" ["_law_bag_here", "_law_many"] F_names := fs_of (k := 2) (st := s_names) (N := n_names) (G := g_names) (fin := finD) finD_sound finD_ex d zsc_names (fun _ _ _ _ _ _ us hl => match us, hl with | [_, _], _ => rfl) (fun f cdv A outer s H E => @w_names T bn c_mixed f cdv A outer s H E)
theorem w_sort {T : Top} (bn : Bn T) (c_take : Fs T 1 "_law_take" ["_law_bag_here", "_law_many"] F_take) (c_one : Fs T 2 "_law_one" ["_law_bag_here", "_law_things"] F_one) {f : Addr} {cdv : Value} {A : Around} {outer : List Env} {s : Shared} {H : Hp} {E : XK} (hr : RoomZ 2 (A.deeper (envOfC "_law_sort" (defScope s_sort) s.heap.objs.size f cdv))) : SSs (dcxX T "_law_sort" s_sort n_sort f cdv A outer s H E) (defBody s_sort) g_sort := by
  have nd := nd_sort
  refine ss_cons ?_ ?_
  · refine ss_par 2 3 rfl ?_ ?_ nd
    · refine se_call (c_take.mono (by decide)) ⟨rfl, rfl, rfl, rfl, rfl⟩ hr ?_ rfl (lenA_cons (lenA_cons lenA_nil))
      refine sa_cons ?_ ?_
      · exact se_nm 0
      refine sa_cons ?_ ?_
      · exact se_int
      exact sa_nil
    refine se_call (c_one.mono (by decide)) ⟨rfl, rfl, rfl, rfl, rfl⟩ hr ?_ rfl (lenA_cons (lenA_cons lenA_nil))
    refine sa_cons ?_ ?_
    · exact se_nm 0
    refine sa_cons ?_ ?_
    · refine se_lst ?_
      refine sa_cons ?_ ?_
      · exact se_int
      refine sa_cons ?_ ?_
      · exact se_int
      refine sa_cons ?_ ?_
      · exact se_int
      refine sa_cons ?_ ?_
      · exact se_int
      refine sa_cons ?_ ?_
      · exact se_int
      exact sa_nil
    exact sa_nil
  refine ss_cons ?_ ?_
  · refine ss_if ?_ ?_ ?_
    · refine st_cmp sc_lt ?_ ?_
      · exact se_nm 2
      exact se_int
    · refine ss_cons ?_ ?_
      · refine ss_ret ?_
        refine se_tup ?_
        refine sa_cons ?_ ?_
        · exact se_nm 1
        refine sa_cons ?_ ?_
        · exact se_int
        refine sa_cons ?_ ?_
        · exact se_int
        exact sa_nil
      exact ss_nil
    exact ss_nil
  refine ss_cons ?_ ?_
  · refine ss_if ?_ ?_ ?_
    · refine st_cmp (sc_eq hr) ?_ ?_
      · exact se_nm 2
      exact se_int
    · refine ss_cons ?_ ?_
      · refine ss_ret ?_
        refine se_tup ?_
        refine sa_cons ?_ ?_
        · exact se_nm 1
        refine sa_cons ?_ ?_
        · exact se_nm 3
        refine sa_cons ?_ ?_
        · exact se_nm 3
        exact sa_nil
      exact ss_nil
    exact ss_nil
  refine ss_cons ?_ ?_
  · refine ss_if ?_ ?_ ?_
    · refine st_cmp (sc_eq hr) ?_ ?_
      · exact se_nm 2
      exact se_int
    · refine ss_cons ?_ ?_
      · refine ss_ret ?_
        refine se_tup ?_
        refine sa_cons ?_ ?_
        · exact se_nm 1
        refine sa_cons ?_ ?_
        · exact se_int
        refine sa_cons ?_ ?_
        · refine se_bin so_add ?_ ?_
          · exact se_int
          refine se_call (c_take.mono (by decide)) ⟨rfl, rfl, rfl, rfl, rfl⟩ hr ?_ rfl (lenA_cons (lenA_cons lenA_nil))
          refine sa_cons ?_ ?_
          · exact se_nm 0
          refine sa_cons ?_ ?_
          · exact se_int
          exact sa_nil
        exact sa_nil
      exact ss_nil
    exact ss_nil
  refine ss_cons ?_ ?_
  · refine ss_if ?_ ?_ ?_
    · refine st_cmp (sc_eq hr) ?_ ?_
      · exact se_nm 2
      exact se_int
    · refine ss_cons ?_ ?_
      · refine ss_ret ?_
        refine se_tup ?_
        refine sa_cons ?_ ?_
        · exact se_nm 1
        refine sa_cons ?_ ?_
        · exact se_nm 3
        refine sa_cons ?_ ?_
        · refine se_bin so_add ?_ ?_
          · exact se_nm 3
          refine se_call (c_one.mono (by decide)) ⟨rfl, rfl, rfl, rfl, rfl⟩ hr ?_ rfl (lenA_cons (lenA_cons lenA_nil))
          refine sa_cons ?_ ?_
          · exact se_nm 0
          refine sa_cons ?_ ?_
          · refine se_lst ?_
            refine sa_cons ?_ ?_
            · exact se_int
            refine sa_cons ?_ ?_
            · exact se_int
            refine sa_cons ?_ ?_
            · exact se_int
            refine sa_cons ?_ ?_
            · exact se_int
            exact sa_nil
          exact sa_nil
        exact sa_nil
      exact ss_nil
    exact ss_nil
  refine ss_cons ?_ ?_
  · refine ss_ret ?_
    refine se_tup ?_
    refine sa_cons ?_ ?_
    · exact se_nm 1
    refine sa_cons ?_ ?_
    · exact se_nm 3
    refine sa_cons ?_ ?_
    · exact se_non
    exact sa_nil
  exact ss_nil
theorem fs_sort {T : Top} (bn : Bn T) (d : DefAt T "_law_sort" s_sort) (c_take : Fs T 1 "_law_take" ["_law_bag_here", "_law_many"] F_take) (c_one : Fs T 2 "_law_one" ["_law_bag_here", "_law_things"] F_one) : Fs T 3 "_law_sort" ["_law_bag_here", "_law_name"] F_sort := fs_of (k := 2) (st := s_sort) (N := n_sort) (G := g_sort) (fin := finD) finD_sound finD_ex d zsc_sort (fun _ _ _ _ _ _ us hl => match us, hl with | [_, _], _ => rfl) (fun f cdv A outer s H E => @w_sort T bn c_take c_one f cdv A outer s H E)
theorem w_house {T : Top} (bn : Bn T) (c_sort : Fs T 3 "_law_sort" ["_law_bag_here", "_law_name"] F_sort) (c_names : Fs T 3 "_law_names" ["_law_bag_here", "_law_many"] F_names) (c_take : Fs T 1 "_law_take" ["_law_bag_here", "_law_many"] F_take) {f : Addr} {cdv : Value} {A : Around} {outer : List Env} {s : Shared} {H : Hp} {E : XK} (hr : RoomZ 3 (A.deeper (envOfC "_law_house" (defScope s_house) s.heap.objs.size f cdv))) : SSs (dcxX T "_law_house" s_house n_house f cdv A outer s H E) (defBody s_house) g_house := by
  have nd := nd_house
  exact (ss_cons (ss_ret (se_tuple bn.tuple (se_lc (own := [("_law_name", 2)]) rfl nd (blkOk_by (by first | (show blkC n_house (defScope s_house) _ _ = true; decide +kernel) | rfl)) (si_seq (se_call (c_names.mono (by decide)) ⟨rfl, rfl, rfl, rfl, rfl⟩ hr (sa_cons (se_nm 0) (sa_cons (se_bin so_add se_int (se_call (c_take.mono (by decide)) ⟨rfl, rfl, rfl, rfl, rfl⟩ hr (sa_cons (se_nm 0) (sa_cons (se_nm 1) sa_nil)) rfl (lenA_cons (lenA_cons lenA_nil)))) sa_nil)) rfl (lenA_cons (lenA_cons lenA_nil)))) (fun B => (sgb_nm 2 nd)) (fun B => sts_nil) (fun B => (se_call (c_sort.mono (by decide)) ⟨rfl, rfl, rfl, rfl, rfl⟩ hr (sa_cons (se_nm 0) (sa_cons (se_nm 2) sa_nil)) rfl (lenA_cons (lenA_cons lenA_nil)))))))
    ss_nil)
theorem fs_house {T : Top} (bn : Bn T) (d : DefAt T "_law_house" s_house) (c_sort : Fs T 3 "_law_sort" ["_law_bag_here", "_law_name"] F_sort) (c_names : Fs T 3 "_law_names" ["_law_bag_here", "_law_many"] F_names) (c_take : Fs T 1 "_law_take" ["_law_bag_here", "_law_many"] F_take) : Fs T 4 "_law_house" ["_law_bag_here", "_law_most"] F_house := fs_of (k := 3) (st := s_house) (N := n_house) (G := g_house) (fin := finD) finD_sound finD_ex d zsc_house (fun _ _ _ _ _ _ us hl => match us, hl with | [_, _], _ => rfl) (fun f cdv A outer s H E => @w_house T bn c_sort c_names c_take f cdv A outer s H E)
theorem w_numbers {T : Top} (bn : Bn T) (c_one : Fs T 2 "_law_one" ["_law_bag_here", "_law_things"] F_one) (c_take : Fs T 1 "_law_take" ["_law_bag_here", "_law_many"] F_take) {f : Addr} {cdv : Value} {A : Around} {outer : List Env} {s : Shared} {H : Hp} {E : XK} (hr : RoomZ 2 (A.deeper (envOfC "_law_numbers" (defScope s_numbers) s.heap.objs.size f cdv))) : SSs (dcxX T "_law_numbers" s_numbers n_numbers f cdv A outer s H E) (defBody s_numbers) g_numbers := by
  have nd := nd_numbers
  refine ss_cons ?_ ?_
  · refine ss_asg ?_ ?_
    · refine se_tup ?_
      refine sa_cons ?_ ?_
      · refine se_call (c_one.mono (by decide)) ⟨rfl, rfl, rfl, rfl, rfl⟩ hr ?_ rfl (lenA_cons (lenA_cons lenA_nil))
        refine sa_cons ?_ ?_
        · exact se_nm 0
        refine sa_cons ?_ ?_
        · refine se_lst ?_
          refine sa_cons ?_ ?_
          · exact se_int
          refine sa_cons ?_ ?_
          · refine se_neg ?_
            exact se_int
          refine sa_cons ?_ ?_
          · exact se_int
          refine sa_cons ?_ ?_
          · exact se_int
          refine sa_cons ?_ ?_
          · refine se_bin so_sub ?_ ?_
            · exact se_int
            refine se_bin so_pow ?_ ?_
            · exact se_int
            exact se_int
          exact sa_nil
        exact sa_nil
      refine sa_cons ?_ ?_
      · refine se_call (c_one.mono (by decide)) ⟨rfl, rfl, rfl, rfl, rfl⟩ hr ?_ rfl (lenA_cons (lenA_cons lenA_nil))
        refine sa_cons ?_ ?_
        · exact se_nm 0
        refine sa_cons ?_ ?_
        · refine se_lst ?_
          refine sa_cons ?_ ?_
          · exact se_int
          refine sa_cons ?_ ?_
          · exact se_int
          refine sa_cons ?_ ?_
          · exact se_int
          refine sa_cons ?_ ?_
          · exact se_int
          refine sa_cons ?_ ?_
          · refine se_bin so_pow ?_ ?_
            · exact se_int
            exact se_int
          exact sa_nil
        exact sa_nil
      exact sa_nil
    refine sg_tup rfl ?_
    refine sgs_cons ?_ ?_
    · exact sg_nm 1 nd
    refine sgs_cons ?_ ?_
    · exact sg_nm 2 nd
    exact sgs_nil
  refine ss_cons ?_ ?_
  · refine ss_ret ?_
    refine se_lc (own := [("_law_place", 3)]) rfl nd (blkOk_by (by first | (show blkC n_numbers (defScope s_numbers) _ _ = true; decide +kernel) | rfl)) ?_ ?_ ?_ ?_
    · refine si_rng1 bn.range ?_
      refine se_bin so_add ?_ ?_
      · exact se_int
      refine se_call (c_take.mono (by decide)) ⟨rfl, rfl, rfl, rfl, rfl⟩ hr ?_ rfl (lenA_cons (lenA_cons lenA_nil))
      refine sa_cons ?_ ?_
      · exact se_nm 0
      refine sa_cons ?_ ?_
      · exact se_int
      exact sa_nil
    · intro B
      exact sgb_nm 3 nd
    · intro B
      exact sts_nil
    intro B
    refine se_bin so_add ?_ ?_
    · exact se_nm 1
    refine se_bin so_mul ?_ ?_
    · exact se_nm 2
    exact se_nm 3
  exact ss_nil
theorem fs_numbers {T : Top} (bn : Bn T) (d : DefAt T "_law_numbers" s_numbers) (c_one : Fs T 2 "_law_one" ["_law_bag_here", "_law_things"] F_one) (c_take : Fs T 1 "_law_take" ["_law_bag_here", "_law_many"] F_take) : Fs T 3 "_law_numbers" ["_law_bag_here"] F_numbers := fs_of (k := 2) (st := s_numbers) (N := n_numbers) (G := g_numbers) (fin := finD) finD_sound finD_ex d zsc_numbers (fun _ _ _ _ _ _ us hl => match us, hl with | [_], _ => rfl) (fun f cdv A outer s H E => @w_numbers T bn c_one c_take f cdv A outer s H E)
theorem w_size {T : Top} (bn : Bn T) (c_take : Fs T 1 "_law_take" ["_law_bag_here", "_law_many"] F_take) {f : Addr} {cdv : Value} {A : Around} {outer : List Env} {s : Shared} {H : Hp} {E : XK} (hr : RoomZ 1 (A.deeper (envOfC "_law_size" (defScope s_size) s.heap.objs.size f cdv))) : SSs (dcxX T "_law_size" s_size n_size f cdv A outer s H E) (defBody s_size) g_size := by
  have nd := nd_size
  exact (ss_cons (ss_set 3 (se_if (st_isN (se_ix hr (se_nm 1) se_int)) (se_bin so_add (se_ix hr (se_nm 1) se_int) (se_nm 2)) (se_min2 bn.min rfl (se_ix hr (se_nm 1) se_int) (se_bin so_add (se_ix hr (se_nm 1) se_int) (se_nm 2)))) nd)
    (ss_cons (ss_ret (se_bin so_add (se_ix hr (se_nm 1) se_int) (se_call (c_take.mono (by decide)) ⟨rfl, rfl, rfl, rfl, rfl⟩ hr (sa_cons (se_nm 0) (sa_cons (se_bin so_add (se_bin so_sub (se_nm 3) (se_ix hr (se_nm 1) se_int)) se_int) sa_nil)) rfl (lenA_cons (lenA_cons lenA_nil)))))
    ss_nil))
theorem fs_size {T : Top} (bn : Bn T) (d : DefAt T "_law_size" s_size) (c_take : Fs T 1 "_law_take" ["_law_bag_here", "_law_many"] F_take) : Fs T 2 "_law_size" ["_law_bag_here", "_law_sort_here", "_law_more"] F_size := fs_of (k := 1) (st := s_size) (N := n_size) (G := g_size) (fin := finD) finD_sound finD_ex d zsc_size (fun _ _ _ _ _ _ us hl => match us, hl with | [_, _, _], _ => rfl) (fun f cdv A outer s H E => @w_size T bn c_take f cdv A outer s H E)
theorem w_table {T : Top} (bn : Bn T) (c_mixed : Fs T 2 "_law_mixed" ["_law_bag_here", "_law_things"] F_mixed) (c_one : Fs T 2 "_law_one" ["_law_bag_here", "_law_things"] F_one) (c_size : Fs T 2 "_law_size" ["_law_bag_here", "_law_sort_here", "_law_more"] F_size) {f : Addr} {cdv : Value} {A : Around} {outer : List Env} {s : Shared} {H : Hp} {E : XK} (hr : RoomZ 2 (A.deeper (envOfC "_law_table" (defScope s_table) s.heap.objs.size f cdv))) : SSs (dcxX T "_law_table" s_table n_table f cdv A outer s H E) (defBody s_table) g_table := by
  have nd := nd_table
  exact (ss_cons (ss_set 4 se_dnewE nd)
    (ss_cons (ss_for dcx_pass rfl (si_seq (se_call (c_mixed.mono (by decide)) ⟨rfl, rfl, rfl, rfl, rfl⟩ hr (sa_cons (se_nm 0) (sa_cons (se_nm 1) sa_nil)) rfl (lenA_cons (lenA_cons lenA_nil)))) (sg_nm 5 nd) (ss_cons (ss_asg (se_tuple bn.tuple (se_altV (se_sorted bn.sorted (se_lc (own := [("_law_row", 6)]) rfl nd (blkOk_by (by first | (show blkC n_table (defScope s_table) _ _ = true; decide +kernel) | rfl)) (si_rng1 bn.range (se_call (c_size.mono (by decide)) ⟨rfl, rfl, rfl, rfl, rfl⟩ hr (sa_cons (se_nm 0) (sa_cons (se_nm 5) (sa_cons (se_nm 3) sa_nil))) rfl (lenA_cons (lenA_cons (lenA_cons lenA_nil))))) (fun B => (sgb_nm 6 nd)) (fun B => sts_nil) (fun B => (se_call (c_one.mono (by decide)) ⟨rfl, rfl, rfl, rfl, rfl⟩ hr (sa_cons (se_nm 0) (sa_cons (se_nm 2) sa_nil)) rfl (lenA_cons (lenA_cons lenA_nil)))))) (se_sortedD bn.sorted rfl (se_lc (own := [("_law_row", 6)]) rfl nd (blkOk_by (by first | (show blkC n_table (defScope s_table) _ _ = true; decide +kernel) | rfl)) (si_rng1 bn.range (se_call (c_size.mono (by decide)) ⟨rfl, rfl, rfl, rfl, rfl⟩ hr (sa_cons (se_nm 0) (sa_cons (se_nm 5) (sa_cons (se_nm 3) sa_nil))) rfl (lenA_cons (lenA_cons (lenA_cons lenA_nil))))) (fun B => (sgb_nm 6 nd)) (fun B => sts_nil) (fun B => (se_call (c_one.mono (by decide)) ⟨rfl, rfl, rfl, rfl, rfl⟩ hr (sa_cons (se_nm 0) (sa_cons (se_nm 2) sa_nil)) rfl (lenA_cons (lenA_cons lenA_nil)))))))) (sg_sub hr (se_nm 4) (se_ix hr (se_nm 5) se_int)))
    ss_nil))
    (ss_cons (ss_ret (se_nm 4))
    ss_nil)))
theorem fs_table {T : Top} (bn : Bn T) (d : DefAt T "_law_table" s_table) (c_mixed : Fs T 2 "_law_mixed" ["_law_bag_here", "_law_things"] F_mixed) (c_one : Fs T 2 "_law_one" ["_law_bag_here", "_law_things"] F_one) (c_size : Fs T 2 "_law_size" ["_law_bag_here", "_law_sort_here", "_law_more"] F_size) : Fs T 3 "_law_table" ["_law_bag_here", "_law_house_here", "_law_pool", "_law_more"] F_table := fs_of (k := 2) (st := s_table) (N := n_table) (G := g_table) (fin := finD) finD_sound finD_ex d zsc_table (fun _ _ _ _ _ _ us hl => match us, hl with | [_, _, _, _], _ => rfl) (fun f cdv A outer s H E => @w_table T bn c_mixed c_one c_size f cdv A outer s H E)
theorem w_deed {T : Top} (bn : Bn T) (c_take : Fs T 1 "_law_take" ["_law_bag_here", "_law_many"] F_take) (c_mixed : Fs T 2 "_law_mixed" ["_law_bag_here", "_law_things"] F_mixed) (c_one : Fs T 2 "_law_one" ["_law_bag_here", "_law_things"] F_one) {f : Addr} {cdv : Value} {A : Around} {outer : List Env} {s : Shared} {H : Hp} {E : XK} (hr : RoomZ 2 (A.deeper (envOfC "_law_deed" (defScope s_deed) s.heap.objs.size f cdv))) : SSs (dcxX T "_law_deed" s_deed n_deed f cdv A outer s H E) (defBody s_deed) g_deed := by
  have nd := nd_deed
  refine ss_cons ?_ ?_
  · refine ss_setLc 4 (own := [("_law_sort_here", 5)]) rfl nd (blkOk_by (by first | (show blkC n_deed (defScope s_deed) _ _ = true; decide +kernel) | rfl)) ?_ ?_ ?_ ?_ rfl
    · refine si_seq ?_
      exact se_nm 1
    · intro B
      exact sgb_nm 5 nd
    · intro B
      exact sts_nil
    intro B
    refine se_ix hr ?_ ?_
    · exact se_nm 5
    exact se_int
  refine ss_cons ?_ ?_
  · refine ss_par 6 7 rfl ?_ ?_ nd
    · refine se_sl ?_ ?_ ?_
      · refine se_call (c_mixed.mono (by decide)) ⟨rfl, rfl, rfl, rfl, rfl⟩ hr ?_ rfl (lenA_cons (lenA_cons lenA_nil))
        refine sa_cons ?_ ?_
        · exact se_nm 0
        refine sa_cons ?_ ?_
        · exact se_nm 4
        exact sa_nil
      · exact sp_none
      refine sp_some ?_
      exact se_int
    refine se_bin so_add ?_ ?_
    · exact se_int
    refine se_call (c_take.mono (by decide)) ⟨rfl, rfl, rfl, rfl, rfl⟩ hr ?_ rfl (lenA_cons (lenA_cons lenA_nil))
    refine sa_cons ?_ ?_
    · exact se_nm 0
    refine sa_cons ?_ ?_
    · exact se_nm 3
    exact sa_nil
  refine ss_cons ?_ ?_
  · refine ss_set 8 ?_ ?_ ?_ ?_ ?_ ?_
    rotate_left 1
    · exact nd
    · rfl
    · first | exact Or.inl rfl | exact Or.inr rfl
    · rfl
    · first | exact Or.inl rfl | exact Or.inr rfl
    refine se_call (c_take.mono (by decide)) ⟨rfl, rfl, rfl, rfl, rfl⟩ hr ?_ rfl (lenA_cons (lenA_cons lenA_nil))
    refine sa_cons ?_ ?_
    · exact se_nm 0
    refine sa_cons ?_ ?_
    · refine se_if ?_ ?_ ?_
      · refine st_cmp sc_gt ?_ ?_
        · refine se_len bn.len ?_
          exact se_nm 6
        exact se_int
      · exact se_int
      exact se_int
    exact sa_nil
  refine ss_cons ?_ ?_
  · refine ss_if ?_ ?_ ?_
    · refine st_cmp (sc_eq hr) ?_ ?_
      · exact se_nm 8
      exact se_int
    · refine ss_cons ?_ ?_
      · refine ss_ret ?_
        refine se_tup ?_
        refine sa_cons ?_ ?_
        · exact se_str
        refine sa_cons ?_ ?_
        · refine se_ix hr ?_ ?_
          · exact se_nm 6
          exact se_int
        refine sa_cons ?_ ?_
        · refine se_call (c_one.mono (by decide)) ⟨rfl, rfl, rfl, rfl, rfl⟩ hr ?_ rfl (lenA_cons (lenA_cons lenA_nil))
          refine sa_cons ?_ ?_
          · exact se_nm 0
          refine sa_cons ?_ ?_
          · exact se_nm 2
          exact sa_nil
        exact sa_nil
      exact ss_nil
    exact ss_nil
  refine ss_cons ?_ ?_
  · refine ss_if ?_ ?_ ?_
    · refine st_cmp (sc_eq hr) ?_ ?_
      · exact se_nm 8
      exact se_int
    · refine ss_cons ?_ ?_
      · refine ss_ret ?_
        refine se_tup ?_
        refine sa_cons ?_ ?_
        · exact se_str
        refine sa_cons ?_ ?_
        · refine se_ix hr ?_ ?_
          · exact se_nm 6
          exact se_int
        refine sa_cons ?_ ?_
        · exact se_nm 7
        exact sa_nil
      exact ss_nil
    exact ss_nil
  refine ss_cons ?_ ?_
  · refine ss_if ?_ ?_ ?_
    · refine st_cmp (sc_eq hr) ?_ ?_
      · exact se_nm 8
      exact se_int
    · refine ss_cons ?_ ?_
      · refine ss_ret ?_
        refine se_tup ?_
        refine sa_cons ?_ ?_
        · exact se_str
        refine sa_cons ?_ ?_
        · refine se_ix hr ?_ ?_
          · exact se_nm 6
          exact se_int
        refine sa_cons ?_ ?_
        · refine se_call (c_one.mono (by decide)) ⟨rfl, rfl, rfl, rfl, rfl⟩ hr ?_ rfl (lenA_cons (lenA_cons lenA_nil))
          refine sa_cons ?_ ?_
          · exact se_nm 0
          refine sa_cons ?_ ?_
          · refine se_lst ?_
            refine sa_cons ?_ ?_
            · exact se_nm 7
            refine sa_cons ?_ ?_
            · refine se_bin so_sub ?_ ?_
              · exact se_nm 7
              exact se_int
            exact sa_nil
          exact sa_nil
        exact sa_nil
      exact ss_nil
    exact ss_nil
  refine ss_cons ?_ ?_
  · refine ss_ret ?_
    refine se_if ?_ ?_ ?_
    · refine st_cmp (sc_eq hr) ?_ ?_
      · exact se_nm 8
      exact se_int
    · refine se_tup ?_
      refine sa_cons ?_ ?_
      · exact se_str
      refine sa_cons ?_ ?_
      · refine se_ix hr ?_ ?_
        · exact se_nm 6
        exact se_int
      refine sa_cons ?_ ?_
      · exact se_nm 7
      refine sa_cons ?_ ?_
      · refine se_ix hr ?_ ?_
        · exact se_nm 6
        exact se_int
      exact sa_nil
    refine se_tup ?_
    refine sa_cons ?_ ?_
    · exact se_str
    refine sa_cons ?_ ?_
    · refine se_ix hr ?_ ?_
      · exact se_nm 6
      exact se_int
    refine sa_cons ?_ ?_
    · refine se_ix hr ?_ ?_
      · exact se_nm 6
      exact se_int
    exact sa_nil
  exact ss_nil
theorem fs_deed {T : Top} (bn : Bn T) (d : DefAt T "_law_deed" s_deed) (c_take : Fs T 1 "_law_take" ["_law_bag_here", "_law_many"] F_take) (c_mixed : Fs T 2 "_law_mixed" ["_law_bag_here", "_law_things"] F_mixed) (c_one : Fs T 2 "_law_one" ["_law_bag_here", "_law_things"] F_one) : Fs T 3 "_law_deed" ["_law_bag_here", "_law_house_here", "_law_pool", "_law_most"] F_deed := fs_of (k := 2) (st := s_deed) (N := n_deed) (G := g_deed) (fin := finD) finD_sound finD_ex d zsc_deed (fun _ _ _ _ _ _ us hl => match us, hl with | [_, _, _, _], _ => rfl) (fun f cdv A outer s H E => @w_deed T bn c_take c_mixed c_one f cdv A outer s H E)
theorem w_script {T : Top} (bn : Bn T) (c_deed : Fs T 3 "_law_deed" ["_law_bag_here", "_law_house_here", "_law_pool", "_law_most"] F_deed) (c_take : Fs T 1 "_law_take" ["_law_bag_here", "_law_many"] F_take) {f : Addr} {cdv : Value} {A : Around} {outer : List Env} {s : Shared} {H : Hp} {E : XK} (hr : RoomZ 3 (A.deeper (envOfC "_law_script" (defScope s_script) s.heap.objs.size f cdv))) : SSs (dcxX T "_law_script" s_script n_script f cdv A outer s H E) (defBody s_script) g_script := by
  have nd := nd_script
  exact (ss_cons (ss_ret (se_tuple bn.tuple (se_lc (own := [("_law_turn", 5)]) rfl nd (blkOk_by (by first | (show blkC n_script (defScope s_script) _ _ = true; decide +kernel) | rfl)) (si_rng1 bn.range (se_call (c_take.mono (by decide)) ⟨rfl, rfl, rfl, rfl, rfl⟩ hr (sa_cons (se_nm 0) (sa_cons (se_bin so_add (se_nm 3) se_int) sa_nil)) rfl (lenA_cons (lenA_cons lenA_nil)))) (fun B => (sgb_nm 5 nd)) (fun B => sts_nil) (fun B => (se_call (c_deed.mono (by decide)) ⟨rfl, rfl, rfl, rfl, rfl⟩ hr (sa_cons (se_nm 0) (sa_cons (se_nm 1) (sa_cons (se_nm 2) (sa_cons (se_nm 4) sa_nil)))) rfl (lenA_cons (lenA_cons (lenA_cons (lenA_cons lenA_nil)))))))))
    ss_nil)
theorem fs_script {T : Top} (bn : Bn T) (d : DefAt T "_law_script" s_script) (c_deed : Fs T 3 "_law_deed" ["_law_bag_here", "_law_house_here", "_law_pool", "_law_most"] F_deed) (c_take : Fs T 1 "_law_take" ["_law_bag_here", "_law_many"] F_take) : Fs T 4 "_law_script" ["_law_bag_here", "_law_house_here", "_law_pool", "_law_many", "_law_most"] F_script := fs_of (k := 3) (st := s_script) (N := n_script) (G := g_script) (fin := finD) finD_sound finD_ex d zsc_script (fun _ _ _ _ _ _ us hl => match us, hl with | [_, _, _, _, _], _ => rfl) (fun f cdv A outer s H E => @w_script T bn c_deed c_take f cdv A outer s H E)
theorem w_done {T : Top} (bn : Bn T) {f : Addr} {cdv : Value} {A : Around} {outer : List Env} {s : Shared} {H : Hp} {E : XK} (hr : RoomZ 0 (A.deeper (envOfC "_law_done" (defScope s_done) s.heap.objs.size f cdv))) : SSs (dcxX T "_law_done" s_done n_done f cdv A outer s H E) (defBody s_done) g_done := by
  have nd := nd_done
  exact (ss_cons (ss_set 2 (se_dlM bn.dict rfl (own := [("_law_name", 3)]) nd (blkOk_by (by first | (show blkC n_done (defScope s_done) _ _ = true; decide +kernel) | rfl)) (si_seq (se_altV (se_sorted bn.sorted (se_nm 0)) (se_sortedD bn.sorted rfl (se_nm 0)))) (fun B => (sgb_nm 3 nd)) (fun B => sts_nil) (fun B => (se_nm 3)) (fun B => (se_listM bn.list (se_ix hr (se_nm 0) (se_nm 3))))) nd)
    (ss_cons (ss_for dcx_pass rfl (si_seq (se_nm 1)) (sg_nm 4 nd) (ss_cons (ss_par 5 6 rfl (se_ix hr (se_nm 2) (se_ix hr (se_nm 4) se_int)) (se_ix hr (se_nm 4) se_int) nd)
    (ss_cons (ss_if (st_cmp (sc_eq hr) (se_nm 6) se_str) (ss_cons (ss_asg (se_sortedM bn.sorted (se_bin so_add (se_nm 5) (se_lst (sa_cons (se_ix hr (se_nm 4) se_int) sa_nil)))) (sg_sub hr (se_nm 2) (se_ix hr (se_nm 4) se_int)))
    ss_nil) (ss_cons (ss_if (st_cmp (sc_eq hr) (se_nm 6) se_str) (ss_cons (ss_asg (se_slM (se_nm 5) (sp_some (se_max2 bn.max rfl se_int (se_bin so_sub (se_len bn.len (se_nm 5)) (se_ix hr (se_nm 4) se_int)))) sp_none) (sg_sub hr (se_nm 2) (se_ix hr (se_nm 4) se_int)))
    ss_nil) (ss_cons (ss_if (st_cmp (sc_eq hr) (se_nm 6) se_str) (ss_cons (ss_asg (se_sortedM bn.sorted (se_bin so_add (se_ix hr (se_nm 2) (se_ix hr (se_nm 4) se_int)) (se_nm 5))) (sg_sub hr (se_nm 2) (se_ix hr (se_nm 4) se_int)))
    (ss_cons (ss_asg (se_lstM sa_nil) (sg_sub hr (se_nm 2) (se_ix hr (se_nm 4) se_int)))
    ss_nil)) (ss_cons (ss_if (st_cmp sc_ge (se_len bn.len (se_nm 5)) (se_ix hr (se_nm 4) se_int)) (ss_cons (ss_set 7 (se_popAt (se_nm 5) (se_bin so_sub (se_len bn.len (se_nm 5)) (se_ix hr (se_nm 4) se_int))) nd)
    (ss_cons (ss_if (st_cmp (sc_eq hr) (se_nm 6) se_str) (ss_cons (ss_asg (se_sortedM bn.sorted (se_bin so_add (se_ix hr (se_nm 2) (se_ix hr (se_nm 4) se_int)) (se_lst (sa_cons (se_nm 7) sa_nil)))) (sg_sub hr (se_nm 2) (se_ix hr (se_nm 4) se_int)))
    ss_nil) ss_nil)
    ss_nil)) ss_nil)
    ss_nil))
    ss_nil))
    ss_nil))
    ss_nil)))
    (ss_cons (ss_ret (se_lock 2 (se_dl bn.dict rfl (own := [("_law_name", 3)]) nd (blkOk_by (by first | (show blkC n_done (defScope s_done) _ _ = true; decide +kernel) | rfl)) (si_keys 2 (se_nm 2)) (fun B => (sgb_nm 3 nd)) (fun B => sts_nil) (fun B => (se_nm 3)) (fun B => (se_tuple bn.tuple (se_ix hr (se_nm 2) (se_nm 3)))))))
    ss_nil)))
theorem fs_done {T : Top} (bn : Bn T) (d : DefAt T "_law_done" s_done) : Fs T 1 "_law_done" ["_law_table_here", "_law_script_here"] F_done := fs_of (k := 0) (st := s_done) (N := n_done) (G := g_done) (fin := finD) finD_sound finD_ex d zsc_done (fun _ _ _ _ _ _ us hl => match us, hl with | [_, _], _ => rfl) (fun f cdv A outer s H E => @w_done T bn f cdv A outer s H E)
theorem w_in {T : Top} (bn : Bn T) (c_alike : Fs T 1 "_law_alike" ["_law_found", "_law_due"] F_alike) {f : Addr} {cdv : Value} {A : Around} {outer : List Env} {s : Shared} {H : Hp} {E : XK} (hr : RoomZ 1 (A.deeper (envOfC "_law_in" (defScope s_in) s.heap.objs.size f cdv))) : SSs (dcxX T "_law_in" s_in n_in f cdv A outer s H E) (defBody s_in) g_in := by
  have nd := nd_in
  exact (ss_cons (ss_ret (se_cmp (sc_ne hr) (se_lc (own := [("_law_one_here", 2)]) rfl nd (blkOk_by (by first | (show blkC n_in (defScope s_in) _ _ = true; decide +kernel) | rfl)) (si_seq (se_nm 0)) (fun B => (sgb_nm 2 nd)) (fun B => (sts_one (st_val (se_call (c_alike.mono (by decide)) ⟨rfl, rfl, rfl, rfl, rfl⟩ hr (sa_cons (se_nm 2) (sa_cons (se_nm 1) sa_nil)) rfl (lenA_cons (lenA_cons lenA_nil)))))) (fun B => (se_nm 2))) (se_lst sa_nil)))
    ss_nil)
theorem fs_in {T : Top} (bn : Bn T) (d : DefAt T "_law_in" s_in) (c_alike : Fs T 1 "_law_alike" ["_law_found", "_law_due"] F_alike) : Fs T 2 "_law_in" ["_law_things", "_law_thing"] F_in := fs_of (k := 1) (st := s_in) (N := n_in) (G := g_in) (fin := finD) finD_sound finD_ex d zsc_in (fun _ _ _ _ _ _ us hl => match us, hl with | [_, _], _ => rfl) (fun f cdv A outer s H E => @w_in T bn c_alike f cdv A outer s H E)
theorem w_is_whole {T : Top} (bn : Bn T) {f : Addr} {cdv : Value} {A : Around} {outer : List Env} {s : Shared} {H : Hp} {E : XK} (hr : RoomZ 0 (A.deeper (envOfC "_law_is_whole" (defScope s_is_whole) s.heap.objs.size f cdv))) : SSs (dcxX T "_law_is_whole" s_is_whole n_is_whole f cdv A outer s H E) (defBody s_is_whole) g_is_whole := by
  have nd := nd_is_whole
  exact (ss_cons (ss_ret (se_and (se_isi (T := "int") bn.isinstance bn.int bt_int (by decide) (se_nm 0)) (se_and (se_not (se_isi (T := "bool") bn.isinstance bn.bool bt_bool (by decide) (se_nm 0))) (se_one (se_cmp sc_ge (se_nm 0) (se_nm 1))))))
    ss_nil)
theorem fs_is_whole {T : Top} (bn : Bn T) (d : DefAt T "_law_is_whole" s_is_whole) : Fs T 1 "_law_is_whole" ["_law_thing", "_law_least"] F_is_whole := fs_of (k := 0) (st := s_is_whole) (N := n_is_whole) (G := g_is_whole) (fin := finD) finD_sound finD_ex d zsc_is_whole (fun _ _ _ _ _ _ us hl => match us, hl with | [_, _], _ => rfl) (fun f cdv A outer s H E => @w_is_whole T bn f cdv A outer s H E)
theorem w_is_deed {T : Top} (bn : Bn T) (c_alike : Fs T 1 "_law_alike" ["_law_found", "_law_due"] F_alike) (c_is_whole : Fs T 1 "_law_is_whole" ["_law_thing", "_law_least"] F_is_whole) (c_in : Fs T 2 "_law_in" ["_law_things", "_law_thing"] F_in) {f : Addr} {cdv : Value} {A : Around} {outer : List Env} {s : Shared} {H : Hp} {E : XK} (hr : RoomZ 2 (A.deeper (envOfC "_law_is_deed" (defScope s_is_deed) s.heap.objs.size f cdv))) : SSs (dcxX T "_law_is_deed" s_is_deed n_is_deed f cdv A outer s H E) (defBody s_is_deed) g_is_deed := by
  have nd := nd_is_deed
  exact (ss_cons (ss_setLc 2 (own := [("_law_sort_here", 3)]) rfl nd (blkOk_by (by first | (show blkC n_is_deed (defScope s_is_deed) _ _ = true; decide +kernel) | rfl)) (si_seq (se_nm 0)) (fun B => (sgb_nm 3 nd)) (fun B => sts_nil) (fun B => (se_ix hr (se_nm 3) se_int)) rfl)
    (ss_cons (ss_if (st_w (sw_or (st_not (st_val (se_isi (T := "tuple") bn.isinstance bn.tuple bt_tuple (by decide) (se_nm 1)))) (sw_or (st_cmp sc_lt (se_len bn.len (se_nm 1)) se_int) (sw_or1 (st_not (st_val (se_call (c_in.mono (by decide)) ⟨rfl, rfl, rfl, rfl, rfl⟩ hr (sa_cons (se_nm 2) (sa_cons (se_ix hr (se_nm 1) se_int) sa_nil)) rfl (lenA_cons (lenA_cons lenA_nil))))))))) (ss_cons (ss_ret se_bl)
    ss_nil) ss_nil)
    (ss_cons (ss_if (st_val (se_call (c_alike.mono (by decide)) ⟨rfl, rfl, rfl, rfl, rfl⟩ hr (sa_cons (se_ix hr (se_nm 1) se_int) (sa_cons se_str sa_nil)) rfl (lenA_cons (lenA_cons lenA_nil)))) (ss_cons (ss_ret (se_and (se_cmp (sc_eq hr) (se_len bn.len (se_nm 1)) se_int) (se_one (se_call (c_is_whole.mono (by decide)) ⟨rfl, rfl, rfl, rfl, rfl⟩ hr (sa_cons (se_ix hr (se_nm 1) se_int) (sa_cons (se_if (st_val (se_isi (T := "int") bn.isinstance bn.int bt_int (by decide) (se_ix hr (se_nm 1) se_int))) (se_ix hr (se_nm 1) se_int) se_int) sa_nil)) rfl (lenA_cons (lenA_cons lenA_nil))))))
    ss_nil) ss_nil)
    (ss_cons (ss_if (st_w (sw_or (st_val (se_call (c_alike.mono (by decide)) ⟨rfl, rfl, rfl, rfl, rfl⟩ hr (sa_cons (se_ix hr (se_nm 1) se_int) (sa_cons se_str sa_nil)) rfl (lenA_cons (lenA_cons lenA_nil)))) (sw_or1 (st_val (se_call (c_alike.mono (by decide)) ⟨rfl, rfl, rfl, rfl, rfl⟩ hr (sa_cons (se_ix hr (se_nm 1) se_int) (sa_cons se_str sa_nil)) rfl (lenA_cons (lenA_cons lenA_nil))))))) (ss_cons (ss_ret (se_and (se_cmp (sc_eq hr) (se_len bn.len (se_nm 1)) se_int) (se_one (se_call (c_is_whole.mono (by decide)) ⟨rfl, rfl, rfl, rfl, rfl⟩ hr (sa_cons (se_ix hr (se_nm 1) se_int) (sa_cons (se_if (st_cmp (sc_eq hr) (se_ix hr (se_nm 1) se_int) se_str) se_int se_int) sa_nil)) rfl (lenA_cons (lenA_cons lenA_nil))))))
    ss_nil) ss_nil)
    (ss_cons (ss_if (st_val (se_call (c_alike.mono (by decide)) ⟨rfl, rfl, rfl, rfl, rfl⟩ hr (sa_cons (se_ix hr (se_nm 1) se_int) (sa_cons se_str sa_nil)) rfl (lenA_cons (lenA_cons lenA_nil)))) (ss_cons (ss_ret (se_and (se_cmp (sc_eq hr) (se_len bn.len (se_nm 1)) se_int) (se_and (se_call (c_in.mono (by decide)) ⟨rfl, rfl, rfl, rfl, rfl⟩ hr (sa_cons (se_nm 2) (sa_cons (se_ix hr (se_nm 1) se_int) sa_nil)) rfl (lenA_cons (lenA_cons lenA_nil))) (se_one (se_cmp (sc_ne hr) (se_ix hr (se_nm 1) se_int) (se_ix hr (se_nm 1) se_int))))))
    ss_nil) ss_nil)
    (ss_cons (ss_if (st_w (sw_or (st_not (st_val (se_call (c_alike.mono (by decide)) ⟨rfl, rfl, rfl, rfl, rfl⟩ hr (sa_cons (se_ix hr (se_nm 1) se_int) (sa_cons se_str sa_nil)) rfl (lenA_cons (lenA_cons lenA_nil))))) (sw_or1 (st_cmp (sc_ne hr) (se_len bn.len (se_nm 1)) se_int)))) (ss_cons (ss_ret se_bl)
    ss_nil) ss_nil)
    (ss_cons (ss_ret (se_and (se_call (c_is_whole.mono (by decide)) ⟨rfl, rfl, rfl, rfl, rfl⟩ hr (sa_cons (se_ix hr (se_nm 1) se_int) (sa_cons se_int sa_nil)) rfl (lenA_cons (lenA_cons lenA_nil))) (se_and (se_call (c_in.mono (by decide)) ⟨rfl, rfl, rfl, rfl, rfl⟩ hr (sa_cons (se_nm 2) (sa_cons (se_ix hr (se_nm 1) se_int) sa_nil)) rfl (lenA_cons (lenA_cons lenA_nil))) (se_one (se_cmp (sc_ne hr) (se_ix hr (se_nm 1) se_int) (se_ix hr (se_nm 1) se_int))))))
    ss_nil)))))))
theorem fs_is_deed {T : Top} (bn : Bn T) (d : DefAt T "_law_is_deed" s_is_deed) (c_alike : Fs T 1 "_law_alike" ["_law_found", "_law_due"] F_alike) (c_is_whole : Fs T 1 "_law_is_whole" ["_law_thing", "_law_least"] F_is_whole) (c_in : Fs T 2 "_law_in" ["_law_things", "_law_thing"] F_in) : Fs T 3 "_law_is_deed" ["_law_house_here", "_law_thing"] F_is_deed := fs_of (k := 2) (st := s_is_deed) (N := n_is_deed) (G := g_is_deed) (fin := finD) finD_sound finD_ex d zsc_is_deed (fun _ _ _ _ _ _ us hl => match us, hl with | [_, _], _ => rfl) (fun f cdv A outer s H E => @w_is_deed T bn c_alike c_is_whole c_in f cdv A outer s H E)
theorem w_freed {T : Top} (bn : Bn T) {f : Addr} {cdv : Value} {A : Around} {outer : List Env} {s : Shared} {H : Hp} {E : XK} (hr : RoomZ 0 (A.deeper (envOfC "_law_freed" (defScope s_freed) s.heap.objs.size f cdv))) : SSs (dcxX T "_law_freed" s_freed n_freed f cdv A outer s H E) (defBody s_freed) g_freed := by
  have nd := nd_freed
  refine ss_cons ?_ ?_
  · refine ss_ret ?_
    refine se_tuple bn.tuple ?_
    refine se_lc (own := [("_law_sort_here", 1)]) rfl nd (blkOk_by (by first | (show blkC n_freed (defScope s_freed) _ _ = true; decide +kernel) | rfl)) ?_ ?_ ?_ ?_
    · refine si_seq ?_
      exact se_nm 0
    · intro B
      exact sgb_nm 1 nd
    · intro B
      exact sts_nil
    intro B
    refine se_tup ?_
    refine sa_cons ?_ ?_
    · refine se_ix hr ?_ ?_
      · exact se_nm 1
      exact se_int
    refine sa_cons ?_ ?_
    · exact se_int
    refine sa_cons ?_ ?_
    · exact se_non
    exact sa_nil
  exact ss_nil
theorem fs_freed {T : Top} (bn : Bn T) (d : DefAt T "_law_freed" s_freed) : Fs T 1 "_law_freed" ["_law_house_here"] F_freed := fs_of (k := 0) (st := s_freed) (N := n_freed) (G := g_freed) (fin := finD) finD_sound finD_ex d zsc_freed (fun _ _ _ _ _ _ us hl => match us, hl with | [_], _ => rfl) (fun f cdv A outer s H E => @w_freed T bn f cdv A outer s H E)
theorem w_other_deed {T : Top} (bn : Bn T) (c_one : Fs T 2 "_law_one" ["_law_bag_here", "_law_things"] F_one) {f : Addr} {cdv : Value} {A : Around} {outer : List Env} {s : Shared} {H : Hp} {E : XK} (hr : RoomZ 2 (A.deeper (envOfC "_law_other_deed" (defScope s_other_deed) s.heap.objs.size f cdv))) : SSs (dcxX T "_law_other_deed" s_other_deed n_other_deed f cdv A outer s H E) (defBody s_other_deed) g_other_deed := by
  have nd := nd_other_deed
  refine ss_cons ?_ ?_
  · refine ss_setLc 3 (own := [("_law_sort_here", 4)]) rfl nd (blkOk_by (by first | (show blkC n_other_deed (defScope s_other_deed) _ _ = true; decide +kernel) | rfl)) ?_ ?_ ?_ ?_ rfl
    · refine si_seq ?_
      exact se_nm 1
    · intro B
      exact sgb_nm 4 nd
    · intro B
      exact sts_nil
    intro B
    refine se_ix hr ?_ ?_
    · exact se_nm 4
    exact se_int
  refine ss_cons ?_ ?_
  · refine ss_set 5 ?_ ?_ ?_ ?_ ?_ ?_
    rotate_left 1
    · exact nd
    · rfl
    · first | exact Or.inl rfl | exact Or.inr rfl
    · rfl
    · first | exact Or.inl rfl | exact Or.inr rfl
    refine se_lst ?_
    refine sa_cons ?_ ?_
    · exact se_non
    refine sa_cons ?_ ?_
    · refine se_tup ?_
      exact sa_nil
    refine sa_cons ?_ ?_
    · refine se_sl ?_ ?_ ?_
      · exact se_nm 2
      · exact sp_none
      refine sp_some ?_
      exact se_int
    refine sa_cons ?_ ?_
    · refine se_bin so_add ?_ ?_
      · exact se_nm 2
      refine se_sl ?_ ?_ ?_
      · exact se_nm 2
      · refine sp_some ?_
        refine se_neg ?_
        exact se_int
      exact sp_none
    refine sa_cons ?_ ?_
    · refine se_list bn.list ?_
      exact se_nm 2
    refine sa_cons ?_ ?_
    · refine se_bin so_add ?_ ?_
      · refine se_bin so_add ?_ ?_
        · refine se_sl ?_ ?_ ?_
          · exact se_nm 2
          · exact sp_none
          refine sp_some ?_
          exact se_int
        refine se_tup ?_
        refine sa_cons ?_ ?_
        · exact se_str
        exact sa_nil
      refine se_sl ?_ ?_ ?_
      · exact se_nm 2
      · refine sp_some ?_
        exact se_int
      exact sp_none
    refine sa_cons ?_ ?_
    · refine se_bin so_add ?_ ?_
      · refine se_bin so_add ?_ ?_
        · refine se_sl ?_ ?_ ?_
          · exact se_nm 2
          · exact sp_none
          refine sp_some ?_
          exact se_int
        refine se_tup ?_
        refine sa_cons ?_ ?_
        · exact se_non
        exact sa_nil
      refine se_sl ?_ ?_ ?_
      · exact se_nm 2
      · refine sp_some ?_
        exact se_int
      exact sp_none
    exact sa_nil
  refine ss_cons ?_ ?_
  · refine ss_set 5 ?_ ?_ ?_ ?_ ?_ ?_
    rotate_left 1
    · exact nd
    · rfl
    · first | exact Or.inl rfl | exact Or.inr rfl
    · rfl
    · first | exact Or.inl rfl | exact Or.inr rfl
    refine se_bin so_add ?_ ?_
    · exact se_nm 5
    refine se_lc (own := [("_law_one_here", 6)]) rfl nd (blkOk_by (by first | (show blkC n_other_deed (defScope s_other_deed) _ _ = true; decide +kernel) | rfl)) ?_ ?_ ?_ ?_
    · refine si_seq ?_
      refine se_tup ?_
      refine sa_cons ?_ ?_
      · exact se_bl
      refine sa_cons ?_ ?_
      · exact se_int
      refine sa_cons ?_ ?_
      · refine se_neg ?_
        exact se_int
      exact sa_nil
    · intro B
      exact sgb_nm 6 nd
    · intro B
      exact sts_nil
    intro B
    refine se_bin so_add ?_ ?_
    · refine se_bin so_add ?_ ?_
      · refine se_sl ?_ ?_ ?_
        · exact se_nm 2
        · exact sp_none
        refine sp_some ?_
        exact se_int
      refine se_tup ?_
      refine sa_cons ?_ ?_
      · exact se_nm 6
      exact sa_nil
    refine se_sl ?_ ?_ ?_
    · exact se_nm 2
    · refine sp_some ?_
      exact se_int
    exact sp_none
  refine ss_cons ?_ ?_
  · refine ss_set 5 ?_ ?_ ?_ ?_ ?_ ?_
    rotate_left 1
    · exact nd
    · rfl
    · first | exact Or.inl rfl | exact Or.inr rfl
    · rfl
    · first | exact Or.inl rfl | exact Or.inr rfl
    refine se_bin so_add ?_ ?_
    · exact se_nm 5
    refine se_lst ?_
    refine sa_cons ?_ ?_
    · refine se_tup ?_
      refine sa_cons ?_ ?_
      · refine se_ix hr ?_ ?_
        · exact se_nm 2
        exact se_int
      refine sa_cons ?_ ?_
      · refine se_ix hr ?_ ?_
        · exact se_nm 2
        exact se_int
      refine sa_cons ?_ ?_
      · refine se_bin so_pow ?_ ?_
        · exact se_int
        exact se_int
      exact sa_nil
    refine sa_cons ?_ ?_
    · refine se_tup ?_
      refine sa_cons ?_ ?_
      · exact se_str
      refine sa_cons ?_ ?_
      · refine se_ix hr ?_ ?_
        · exact se_nm 3
        exact se_int
      refine sa_cons ?_ ?_
      · refine se_bin so_pow ?_ ?_
        · exact se_int
        exact se_int
      exact sa_nil
    refine sa_cons ?_ ?_
    · refine se_tup ?_
      refine sa_cons ?_ ?_
      · exact se_str
      refine sa_cons ?_ ?_
      · refine se_ix hr ?_ ?_
        · exact se_nm 3
        exact se_int
      refine sa_cons ?_ ?_
      · exact se_int
      exact sa_nil
    refine sa_cons ?_ ?_
    · refine se_tup ?_
      refine sa_cons ?_ ?_
      · exact se_str
      refine sa_cons ?_ ?_
      · refine se_ix hr ?_ ?_
        · exact se_nm 3
        exact se_int
      refine sa_cons ?_ ?_
      · exact se_int
      exact sa_nil
    exact sa_nil
  refine ss_cons ?_ ?_
  · refine ss_set 5 ?_ ?_ ?_ ?_ ?_ ?_
    rotate_left 1
    · exact nd
    · rfl
    · first | exact Or.inl rfl | exact Or.inr rfl
    · rfl
    · first | exact Or.inl rfl | exact Or.inr rfl
    refine se_bin so_add ?_ ?_
    · exact se_nm 5
    refine se_lst ?_
    refine sa_cons ?_ ?_
    · refine se_tup ?_
      refine sa_cons ?_ ?_
      · exact se_str
      refine sa_cons ?_ ?_
      · refine se_ix hr ?_ ?_
        · exact se_nm 3
        exact se_int
      refine sa_cons ?_ ?_
      · exact se_int
      refine sa_cons ?_ ?_
      · refine se_ix hr ?_ ?_
        · exact se_nm 3
        exact se_int
      exact sa_nil
    exact sa_nil
  refine ss_cons ?_ ?_
  · refine ss_set 5 ?_ ?_ ?_ ?_ ?_ ?_
    rotate_left 1
    · exact nd
    · rfl
    · first | exact Or.inl rfl | exact Or.inr rfl
    · rfl
    · first | exact Or.inl rfl | exact Or.inr rfl
    refine se_bin so_add ?_ ?_
    · exact se_nm 5
    refine se_lst ?_
    refine sa_cons ?_ ?_
    · refine se_tup ?_
      refine sa_cons ?_ ?_
      · exact se_str
      refine sa_cons ?_ ?_
      · refine se_ix hr ?_ ?_
        · exact se_nm 3
        exact se_int
      refine sa_cons ?_ ?_
      · refine se_ix hr ?_ ?_
        · exact se_nm 3
        exact se_int
      exact sa_nil
    refine sa_cons ?_ ?_
    · refine se_tup ?_
      refine sa_cons ?_ ?_
      · exact se_str
      refine sa_cons ?_ ?_
      · refine se_ix hr ?_ ?_
        · exact se_nm 3
        exact se_int
      refine sa_cons ?_ ?_
      · refine se_ix hr ?_ ?_
        · exact se_nm 3
        refine se_neg ?_
        exact se_int
      exact sa_nil
    refine sa_cons ?_ ?_
    · refine se_tup ?_
      refine sa_cons ?_ ?_
      · exact se_str
      refine sa_cons ?_ ?_
      · refine se_ix hr ?_ ?_
        · exact se_nm 3
        exact se_int
      refine sa_cons ?_ ?_
      · exact se_str
      exact sa_nil
    refine sa_cons ?_ ?_
    · refine se_tup ?_
      refine sa_cons ?_ ?_
      · exact se_str
      refine sa_cons ?_ ?_
      · refine se_ix hr ?_ ?_
        · exact se_nm 3
        exact se_int
      refine sa_cons ?_ ?_
      · exact se_int
      exact sa_nil
    exact sa_nil
  refine ss_cons ?_ ?_
  · refine ss_set 5 ?_ ?_ ?_ ?_ ?_ ?_
    rotate_left 1
    · exact nd
    · rfl
    · first | exact Or.inl rfl | exact Or.inr rfl
    · rfl
    · first | exact Or.inl rfl | exact Or.inr rfl
    refine se_bin so_add ?_ ?_
    · exact se_nm 5
    refine se_lst ?_
    refine sa_cons ?_ ?_
    · refine se_tup ?_
      refine sa_cons ?_ ?_
      · exact se_str
      refine sa_cons ?_ ?_
      · refine se_ix hr ?_ ?_
        · exact se_nm 3
        exact se_int
      refine sa_cons ?_ ?_
      · exact se_int
      refine sa_cons ?_ ?_
      · refine se_ix hr ?_ ?_
        · exact se_nm 3
        refine se_neg ?_
        exact se_int
      exact sa_nil
    refine sa_cons ?_ ?_
    · refine se_tup ?_
      refine sa_cons ?_ ?_
      · refine se_ix hr ?_ ?_
        · exact se_nm 2
        exact se_int
      refine sa_cons ?_ ?_
      · refine se_lst ?_
        exact sa_nil
      refine sa_cons ?_ ?_
      · exact se_int
      exact sa_nil
    refine sa_cons ?_ ?_
    · refine se_tup ?_
      refine sa_cons ?_ ?_
      · refine se_lst ?_
        exact sa_nil
      refine sa_cons ?_ ?_
      · refine se_ix hr ?_ ?_
        · exact se_nm 3
        exact se_int
      refine sa_cons ?_ ?_
      · exact se_int
      exact sa_nil
    refine sa_cons ?_ ?_
    · refine se_tup ?_
      refine sa_cons ?_ ?_
      · refine se_ix hr ?_ ?_
        · exact se_nm 2
        exact se_int
      refine sa_cons ?_ ?_
      · refine se_ix hr ?_ ?_
        · exact se_nm 3
        exact se_int
      refine sa_cons ?_ ?_
      · exact se_dnil
      exact sa_nil
    refine sa_cons ?_ ?_
    · exact se_str
    refine sa_cons ?_ ?_
    · exact se_int
    refine sa_cons ?_ ?_
    · exact se_dnil
    exact sa_nil
  refine ss_cons ?_ ?_
  · refine ss_set 5 ?_ ?_ ?_ ?_ ?_ ?_
    rotate_left 1
    · exact nd
    · rfl
    · first | exact Or.inl rfl | exact Or.inr rfl
    · rfl
    · first | exact Or.inl rfl | exact Or.inr rfl
    refine se_bin so_add ?_ ?_
    · exact se_nm 5
    refine se_lst ?_
    refine sa_cons ?_ ?_
    · refine se_tup ?_
      refine sa_cons ?_ ?_
      · exact se_str
      refine sa_cons ?_ ?_
      · refine se_ix hr ?_ ?_
        · exact se_nm 3
        exact se_int
      refine sa_cons ?_ ?_
      · exact se_int
      refine sa_cons ?_ ?_
      · exact se_non
      exact sa_nil
    refine sa_cons ?_ ?_
    · refine se_tup ?_
      refine sa_cons ?_ ?_
      · exact se_str
      refine sa_cons ?_ ?_
      · refine se_ix hr ?_ ?_
        · exact se_nm 3
        exact se_int
      refine sa_cons ?_ ?_
      · exact se_bl
      exact sa_nil
    refine sa_cons ?_ ?_
    · refine se_tup ?_
      refine sa_cons ?_ ?_
      · exact se_str
      refine sa_cons ?_ ?_
      · refine se_ix hr ?_ ?_
        · exact se_nm 3
        refine se_neg ?_
        exact se_int
      refine sa_cons ?_ ?_
      · exact se_bl
      exact sa_nil
    refine sa_cons ?_ ?_
    · refine se_tup ?_
      refine sa_cons ?_ ?_
      · exact se_str
      refine sa_cons ?_ ?_
      · refine se_ix hr ?_ ?_
        · exact se_nm 3
        exact se_int
      refine sa_cons ?_ ?_
      · exact se_int
      exact sa_nil
    exact sa_nil
  refine ss_cons ?_ ?_
  · refine ss_ret ?_
    refine se_call (c_one.mono (by decide)) ⟨rfl, rfl, rfl, rfl, rfl⟩ hr ?_ rfl (lenA_cons (lenA_cons lenA_nil))
    refine sa_cons ?_ ?_
    · exact se_nm 0
    refine sa_cons ?_ ?_
    · exact se_nm 5
    exact sa_nil
  exact ss_nil
theorem fs_other_deed {T : Top} (bn : Bn T) (d : DefAt T "_law_other_deed" s_other_deed) (c_one : Fs T 2 "_law_one" ["_law_bag_here", "_law_things"] F_one) : Fs T 3 "_law_other_deed" ["_law_bag_here", "_law_house_here", "_law_deed_here"] F_other_deed := fs_of (k := 2) (st := s_other_deed) (N := n_other_deed) (G := g_other_deed) (fin := finD) finD_sound finD_ex d zsc_other_deed (fun _ _ _ _ _ _ us hl => match us, hl with | [_, _, _], _ => rfl) (fun f cdv A outer s H E => @w_other_deed T bn c_one f cdv A outer s H E)
theorem w_are_judged {T : Top} (bn : Bn T) (c_take : Fs T 1 "_law_take" ["_law_bag_here", "_law_many"] F_take) (c_other_deed : Fs T 3 "_law_other_deed" ["_law_bag_here", "_law_house_here", "_law_deed_here"] F_other_deed) (c_alike : Fs T 1 "_law_alike" ["_law_found", "_law_due"] F_alike) (c_p_is_deed : Fs T 2 "is_deed" ["house", "thing"] F_p_is_deed) (c_is_deed : Fs T 3 "_law_is_deed" ["_law_house_here", "_law_thing"] F_is_deed) (c_p_is_script : Fs T 3 "is_script" ["house", "thing"] F_p_is_script) {f : Addr} {cdv : Value} {A : Around} {outer : List Env} {s : Shared} {H : Hp} {E : XK} (hr : RoomZ 3 (A.deeper (envOfC "_law_are_judged" (defScope s_are_judged) s.heap.objs.size f cdv))) : SSs (dcxX T "_law_are_judged" s_are_judged n_are_judged f cdv A outer s H E) (defBody s_are_judged) g_are_judged := by
  have nd := nd_are_judged
  refine ss_cons ?_ ?_
  · refine ss_set 3 ?_ ?_ ?_ ?_ ?_ ?_
    rotate_left 1
    · exact nd
    · rfl
    · first | exact Or.inl rfl | exact Or.inr rfl
    · rfl
    · first | exact Or.inl rfl | exact Or.inr rfl
    refine se_bin so_add ?_ ?_
    · refine se_list bn.list ?_
      exact se_nm 2
    refine se_lc (own := [("_law_deed_here", 4)]) rfl nd (blkOk_by (by first | (show blkC n_are_judged (defScope s_are_judged) _ _ = true; decide +kernel) | rfl)) ?_ ?_ ?_ ?_
    · refine si_seq ?_
      refine se_bin so_add ?_ ?_
      · refine se_list bn.list ?_
        exact se_nm 2
      refine se_lst ?_
      refine sa_cons ?_ ?_
      · refine se_tup ?_
        refine sa_cons ?_ ?_
        · exact se_str
        refine sa_cons ?_ ?_
        · refine se_ix hr ?_ ?_
          · refine se_ix hr ?_ ?_
            · exact se_nm 1
            exact se_int
          exact se_int
        refine sa_cons ?_ ?_
        · exact se_int
        exact sa_nil
      exact sa_nil
    · intro B
      exact sgb_nm 4 nd
    · intro B
      exact sts_nil
    intro B
    refine se_call (c_other_deed.mono (by decide)) ⟨rfl, rfl, rfl, rfl, rfl⟩ hr ?_ rfl (lenA_cons (lenA_cons (lenA_cons lenA_nil)))
    refine sa_cons ?_ ?_
    · exact se_nm 0
    refine sa_cons ?_ ?_
    · exact se_nm 1
    refine sa_cons ?_ ?_
    · exact se_nm 4
    exact sa_nil
  refine ss_cons ?_ ?_
  · refine ss_for dcx_pass rfl ?_ ?_ ?_
    · refine si_seq ?_
      exact se_nm 3
    · exact sg_nm 5 nd
    refine ss_cons ?_ ?_
    · refine ss_if ?_ ?_ ?_
      · refine st_not ?_
        refine st_val ?_
        refine se_call (c_alike.mono (by decide)) ⟨rfl, rfl, rfl, rfl, rfl⟩ hr ?_ rfl (lenA_cons (lenA_cons lenA_nil))
        refine sa_cons ?_ ?_
        · refine se_call (c_p_is_deed.mono (by decide)) ⟨rfl, rfl, rfl, rfl, rfl⟩ hr ?_ rfl (lenA_cons (lenA_cons lenA_nil))
          refine sa_cons ?_ ?_
          · exact se_nm 1
          refine sa_cons ?_ ?_
          · exact se_nm 5
          exact sa_nil
        refine sa_cons ?_ ?_
        · refine se_call (c_is_deed.mono (by decide)) ⟨rfl, rfl, rfl, rfl, rfl⟩ hr ?_ rfl (lenA_cons (lenA_cons lenA_nil))
          refine sa_cons ?_ ?_
          · exact se_nm 1
          refine sa_cons ?_ ?_
          · exact se_nm 5
          exact sa_nil
        exact sa_nil
      · refine ss_cons ?_ ?_
        · refine ss_ret ?_
          exact se_bl
        exact ss_nil
      exact ss_nil
    exact ss_nil
  refine ss_cons ?_ ?_
  · refine ss_set 6 ?_ ?_ ?_ ?_ ?_ ?_
    rotate_left 1
    · exact nd
    · rfl
    · first | exact Or.inl rfl | exact Or.inr rfl
    · rfl
    · first | exact Or.inl rfl | exact Or.inr rfl
    refine se_call (c_take.mono (by decide)) ⟨rfl, rfl, rfl, rfl, rfl⟩ hr ?_ rfl (lenA_cons (lenA_cons lenA_nil))
    refine sa_cons ?_ ?_
    · exact se_nm 0
    refine sa_cons ?_ ?_
    · refine se_bin so_add ?_ ?_
      · refine se_len bn.len ?_
        exact se_nm 2
      exact se_int
    exact sa_nil
  refine ss_cons ?_ ?_
  · refine ss_set 7 ?_ ?_ ?_ ?_ ?_ ?_
    rotate_left 1
    · exact nd
    · rfl
    · first | exact Or.inl rfl | exact Or.inr rfl
    · rfl
    · first | exact Or.inl rfl | exact Or.inr rfl
    refine se_lst ?_
    refine sa_cons ?_ ?_
    · exact se_nm 2
    refine sa_cons ?_ ?_
    · refine se_list bn.list ?_
      exact se_nm 2
    refine sa_cons ?_ ?_
    · exact se_non
    refine sa_cons ?_ ?_
    · refine se_bin so_add ?_ ?_
      · refine se_bin so_add ?_ ?_
        · refine se_sl ?_ ?_ ?_
          · exact se_nm 2
          · exact sp_none
          refine sp_some ?_
          exact se_nm 6
        refine se_tup ?_
        refine sa_cons ?_ ?_
        · refine se_call (c_other_deed.mono (by decide)) ⟨rfl, rfl, rfl, rfl, rfl⟩ hr ?_ rfl (lenA_cons (lenA_cons (lenA_cons lenA_nil)))
          refine sa_cons ?_ ?_
          · exact se_nm 0
          refine sa_cons ?_ ?_
          · exact se_nm 1
          refine sa_cons ?_ ?_
          · refine se_tup ?_
            refine sa_cons ?_ ?_
            · exact se_str
            refine sa_cons ?_ ?_
            · refine se_ix hr ?_ ?_
              · refine se_ix hr ?_ ?_
                · exact se_nm 1
                exact se_int
              exact se_int
            refine sa_cons ?_ ?_
            · exact se_int
            exact sa_nil
          exact sa_nil
        exact sa_nil
      refine se_sl ?_ ?_ ?_
      · exact se_nm 2
      · refine sp_some ?_
        exact se_nm 6
      exact sp_none
    exact sa_nil
  refine ss_cons ?_ ?_
  · refine ss_for dcx_pass rfl ?_ ?_ ?_
    · refine si_seq ?_
      refine se_bin so_add ?_ ?_
      · exact se_nm 7
      refine se_lst ?_
      refine sa_cons ?_ ?_
      · refine se_tup ?_
        refine sa_cons ?_ ?_
        · exact se_nm 2
        exact sa_nil
      refine sa_cons ?_ ?_
      · exact se_int
      refine sa_cons ?_ ?_
      · exact se_dnil
      exact sa_nil
    · exact sg_nm 5 nd
    refine ss_cons ?_ ?_
    · refine ss_set 8 ?_ ?_ ?_ ?_ ?_ ?_
      rotate_left 1
      · exact nd
      · rfl
      · first | exact Or.inl rfl | exact Or.inr rfl
      · rfl
      · first | exact Or.inl rfl | exact Or.inr rfl
      refine se_and ?_ ?_
      · refine se_isi (T := "tuple") bn.isinstance bn.tuple bt_tuple (by decide) ?_
        exact se_nm 5
      refine se_one ?_
      refine se_altC ?_ ?_
      · refine se_cmp (sc_eq hr) ?_ ?_
        · refine se_lc (own := [("_law_deed_here", 4)]) rfl nd (blkOk_by (by first | (show blkC n_are_judged (defScope s_are_judged) _ _ = true; decide +kernel) | rfl)) ?_ ?_ ?_ ?_
          · refine si_seq ?_
            exact se_nm 5
          · intro B
            exact sgb_nm 4 nd
          · intro B
            refine sts_one ?_
            refine st_not ?_
            refine st_val ?_
            refine se_call (c_is_deed.mono (by decide)) ⟨rfl, rfl, rfl, rfl, rfl⟩ hr ?_ rfl (lenA_cons (lenA_cons lenA_nil))
            refine sa_cons ?_ ?_
            · exact se_nm 1
            refine sa_cons ?_ ?_
            · exact se_nm 4
            exact sa_nil
          intro B
          exact se_nm 4
        refine se_lst ?_
        exact sa_nil
      refine se_cmp (sc_eqX hr) ?_ ?_
      · refine se_lc (own := [("_law_deed_here", 4)]) rfl nd (blkOk_by (by first | (show blkC n_are_judged (defScope s_are_judged) _ _ = true; decide +kernel) | rfl)) ?_ ?_ ?_ ?_
        · refine si_seq ?_
          exact se_nm 5
        · intro B
          exact sgb_nm 4 nd
        · intro B
          refine sts_one ?_
          refine st_not ?_
          refine st_val ?_
          refine se_call (c_is_deed.mono (by decide)) ⟨rfl, rfl, rfl, rfl, rfl⟩ hr ?_ rfl (lenA_cons (lenA_cons lenA_nil))
          refine sa_cons ?_ ?_
          · exact se_nm 1
          refine sa_cons ?_ ?_
          · exact se_nm 4
          exact sa_nil
        intro B
        exact se_nm 4
      refine se_lst ?_
      exact sa_nil
    refine ss_cons ?_ ?_
    · refine ss_if ?_ ?_ ?_
      · refine st_not ?_
        refine st_val ?_
        refine se_call (c_alike.mono (by decide)) ⟨rfl, rfl, rfl, rfl, rfl⟩ hr ?_ rfl (lenA_cons (lenA_cons lenA_nil))
        refine sa_cons ?_ ?_
        · refine se_call (c_p_is_script.mono (by decide)) ⟨rfl, rfl, rfl, rfl, rfl⟩ hr ?_ rfl (lenA_cons (lenA_cons lenA_nil))
          refine sa_cons ?_ ?_
          · exact se_nm 1
          refine sa_cons ?_ ?_
          · exact se_nm 5
          exact sa_nil
        refine sa_cons ?_ ?_
        · exact se_nm 8
        exact sa_nil
      · refine ss_cons ?_ ?_
        · refine ss_ret ?_
          exact se_bl
        exact ss_nil
      exact ss_nil
    exact ss_nil
  refine ss_cons ?_ ?_
  · refine ss_ret ?_
    exact se_bl
  exact ss_nil
theorem fs_are_judged {T : Top} (bn : Bn T) (d : DefAt T "_law_are_judged" s_are_judged) (c_take : Fs T 1 "_law_take" ["_law_bag_here", "_law_many"] F_take) (c_other_deed : Fs T 3 "_law_other_deed" ["_law_bag_here", "_law_house_here", "_law_deed_here"] F_other_deed) (c_alike : Fs T 1 "_law_alike" ["_law_found", "_law_due"] F_alike) (c_p_is_deed : Fs T 2 "is_deed" ["house", "thing"] F_p_is_deed) (c_is_deed : Fs T 3 "_law_is_deed" ["_law_house_here", "_law_thing"] F_is_deed) (c_p_is_script : Fs T 3 "is_script" ["house", "thing"] F_p_is_script) : Fs T 4 "_law_are_judged" ["_law_bag_here", "_law_house_here", "_law_script_here"] F_are_judged := fs_of (k := 3) (st := s_are_judged) (N := n_are_judged) (G := g_are_judged) (fin := finD) finD_sound finD_ex d zsc_are_judged (fun _ _ _ _ _ _ us hl => match us, hl with | [_, _, _], _ => rfl) (fun f cdv A outer s H E => @w_are_judged T bn c_take c_other_deed c_alike c_p_is_deed c_is_deed c_p_is_script f cdv A outer s H E)
theorem w_p_law {T : Top} (bn : Bn T) (c_table : Fs T 3 "_law_table" ["_law_bag_here", "_law_house_here", "_law_pool", "_law_more"] F_table) (c_script : Fs T 4 "_law_script" ["_law_bag_here", "_law_house_here", "_law_pool", "_law_many", "_law_most"] F_script) (c_take : Fs T 1 "_law_take" ["_law_bag_here", "_law_many"] F_take) (c_house : Fs T 4 "_law_house" ["_law_bag_here", "_law_most"] F_house) (c_numbers : Fs T 3 "_law_numbers" ["_law_bag_here"] F_numbers) (c_one : Fs T 2 "_law_one" ["_law_bag_here", "_law_things"] F_one) (c_done : Fs T 1 "_law_done" ["_law_table_here", "_law_script_here"] F_done) (c_p_done : Fs T 2 "done" ["house", "table", "script"] F_p_done) (c_p_done_M : Fs T 2 "done" ["house", "table", "script"] F_p_done_M) (c_alike : Fs T 1 "_law_alike" ["_law_found", "_law_due"] F_alike) (c_are_judged : Fs T 4 "_law_are_judged" ["_law_bag_here", "_law_house_here", "_law_script_here"] F_are_judged) (c_p_freed : Fs T 1 "freed" ["house"] F_p_freed) (c_freed : Fs T 1 "_law_freed" ["_law_house_here"] F_freed) {f : Addr} {cdv : Value} {A : Around} {outer : List Env} {s : Shared} {H : Hp} {E : XK} (hr : RoomZ 4 (A.deeper (envOfC "law" (defScope s_p_law) s.heap.objs.size f cdv))) : SSs (dcxX T "law" s_p_law n_p_law f cdv A outer s H E) ((defBody s_p_law).drop 1) g_p_law2 := by
  have nd := nd_p_law
  refine ss_cons ?_ ?_
  · refine ss_for dcx_pass rfl ?_ ?_ ?_
    · refine si_rng1 bn.range ?_
      exact se_int
    · exact sg_nm 2 nd
    refine ss_cons ?_ ?_
    · refine ss_par 3 4 rfl ?_ ?_ nd
      · refine se_call (c_house.mono (by decide)) ⟨rfl, rfl, rfl, rfl, rfl⟩ hr ?_ rfl (lenA_cons (lenA_cons lenA_nil))
        refine sa_cons ?_ ?_
        · exact se_nm 1
        refine sa_cons ?_ ?_
        · exact se_int
        exact sa_nil
      refine se_call (c_numbers.mono (by decide)) ⟨rfl, rfl, rfl, rfl, rfl⟩ hr ?_ rfl (lenA_cons lenA_nil)
      refine sa_cons ?_ ?_
      · exact se_nm 1
      exact sa_nil
    refine ss_cons ?_ ?_
    · refine ss_set 5 ?_ ?_ ?_ ?_ ?_ ?_
      rotate_left 1
      · exact nd
      · rfl
      · first | exact Or.inl rfl | exact Or.inr rfl
      · rfl
      · first | exact Or.inl rfl | exact Or.inr rfl
      refine se_call (c_table.mono (by decide)) ⟨rfl, rfl, rfl, rfl, rfl⟩ hr ?_ rfl (lenA_cons (lenA_cons (lenA_cons (lenA_cons lenA_nil))))
      refine sa_cons ?_ ?_
      · exact se_nm 1
      refine sa_cons ?_ ?_
      · exact se_nm 3
      refine sa_cons ?_ ?_
      · exact se_nm 4
      refine sa_cons ?_ ?_
      · exact se_int
      exact sa_nil
    refine ss_cons ?_ ?_
    · refine ss_set 6 ?_ ?_ ?_ ?_ ?_ ?_
      rotate_left 1
      · exact nd
      · rfl
      · first | exact Or.inl rfl | exact Or.inr rfl
      · rfl
      · first | exact Or.inl rfl | exact Or.inr rfl
      refine se_call (c_script.mono (by decide)) ⟨rfl, rfl, rfl, rfl, rfl⟩ hr ?_ rfl (lenA_cons (lenA_cons (lenA_cons (lenA_cons (lenA_cons lenA_nil)))))
      refine sa_cons ?_ ?_
      · exact se_nm 1
      refine sa_cons ?_ ?_
      · exact se_nm 3
      refine sa_cons ?_ ?_
      · refine se_bin so_add ?_ ?_
        · exact se_nm 4
        refine se_lst ?_
        refine sa_cons ?_ ?_
        · exact se_int
        exact sa_nil
      refine sa_cons ?_ ?_
      · exact se_int
      refine sa_cons ?_ ?_
      · refine se_call (c_one.mono (by decide)) ⟨rfl, rfl, rfl, rfl, rfl⟩ hr ?_ rfl (lenA_cons (lenA_cons lenA_nil))
        refine sa_cons ?_ ?_
        · exact se_nm 1
        refine sa_cons ?_ ?_
        · refine se_lst ?_
          refine sa_cons ?_ ?_
          · exact se_int
          refine sa_cons ?_ ?_
          · exact se_int
          refine sa_cons ?_ ?_
          · exact se_int
          exact sa_nil
        exact sa_nil
      exact sa_nil
    refine ss_cons ?_ ?_
    · refine ss_par 7 8 rfl ?_ ?_ nd
      · refine se_repr hr bn.sys bn.repr ?_
        refine se_lst ?_
        refine sa_cons ?_ ?_
        · exact se_nm 3
        refine sa_cons ?_ ?_
        · exact se_nm 5
        refine sa_cons ?_ ?_
        · exact se_nm 6
        exact sa_nil
      refine se_call (c_done.mono (by decide)) ⟨rfl, rfl, rfl, rfl, rfl⟩ hr ?_ rfl (lenA_cons (lenA_cons lenA_nil))
      refine sa_cons ?_ ?_
      · exact se_nm 5
      refine sa_cons ?_ ?_
      · exact se_nm 6
      exact sa_nil
    refine ss_cons ?_ ?_
    · refine ss_for dcx_pass rfl ?_ ?_ ?_
      · refine si_rng1 bn.range ?_
        exact se_int
      · exact sg_nm 9 nd
      refine ss_cons ?_ ?_
      · refine ss_set 10 ?_ ?_ ?_ ?_ ?_ ?_
        rotate_left 1
        · exact nd
        · rfl
        · first | exact Or.inl rfl | exact Or.inr rfl
        · rfl
        · first | exact Or.inl rfl | exact Or.inr rfl
        refine se_call (c_p_done_M.mono (by decide)) ⟨rfl, rfl, rfl, rfl, rfl⟩ hr ?_ rfl (lenA_cons (lenA_cons (lenA_cons lenA_nil)))
        refine sa_cons ?_ ?_
        · exact se_nm 3
        refine sa_cons ?_ ?_
        · exact se_nm 5
        refine sa_cons ?_ ?_
        · exact se_nm 6
        exact sa_nil
      refine ss_cons ?_ ?_
      · refine ss_if ?_ ?_ ?_
        · refine st_not ?_
          refine st_val ?_
          refine se_call (c_alike.mono (by decide)) ⟨rfl, rfl, rfl, rfl, rfl⟩ hr ?_ rfl (lenA_cons (lenA_cons lenA_nil))
          refine sa_cons ?_ ?_
          · exact se_nm 10
          refine sa_cons ?_ ?_
          · exact se_nm 8
          exact sa_nil
        · refine ss_cons ?_ ?_
          · refine ss_ret ?_
            exact se_bl
          exact ss_nil
        exact ss_nil
      refine ss_cons ?_ ?_
      · refine ss_asg ?_ ?_
        · exact se_non
        refine sg_sub hr ?_ ?_
        · exact se_nm 10
        refine se_ix hr ?_ ?_
        · refine se_ix hr ?_ ?_
          · exact se_nm 3
          exact se_int
        exact se_int
      exact ss_nil
    refine ss_cons ?_ ?_
    · refine ss_set 11 ?_ ?_ ?_ ?_ ?_ ?_
      rotate_left 1
      · exact nd
      · rfl
      · first | exact Or.inl rfl | exact Or.inr rfl
      · rfl
      · first | exact Or.inl rfl | exact Or.inr rfl
      refine se_call (c_take.mono (by decide)) ⟨rfl, rfl, rfl, rfl, rfl⟩ hr ?_ rfl (lenA_cons (lenA_cons lenA_nil))
      refine sa_cons ?_ ?_
      · exact se_nm 1
      refine sa_cons ?_ ?_
      · refine se_bin so_add ?_ ?_
        · refine se_len bn.len ?_
          exact se_nm 6
        exact se_int
      exact sa_nil
    refine ss_cons ?_ ?_
    · refine ss_if ?_ ?_ ?_
      · refine st_not ?_
        refine st_val ?_
        refine se_call (c_alike.mono (by decide)) ⟨rfl, rfl, rfl, rfl, rfl⟩ hr ?_ rfl (lenA_cons (lenA_cons lenA_nil))
        refine sa_cons ?_ ?_
        · refine se_call (c_p_done.mono (by decide)) ⟨rfl, rfl, rfl, rfl, rfl⟩ hr ?_ rfl (lenA_cons (lenA_cons (lenA_cons lenA_nil)))
          refine sa_cons ?_ ?_
          · refine se_call (c_p_freed.mono (by decide)) ⟨rfl, rfl, rfl, rfl, rfl⟩ hr ?_ rfl (lenA_cons lenA_nil)
            refine sa_cons ?_ ?_
            · exact se_nm 3
            exact sa_nil
          refine sa_cons ?_ ?_
          · refine se_call (c_p_done.mono (by decide)) ⟨rfl, rfl, rfl, rfl, rfl⟩ hr ?_ rfl (lenA_cons (lenA_cons (lenA_cons lenA_nil)))
            refine sa_cons ?_ ?_
            · exact se_nm 3
            refine sa_cons ?_ ?_
            · exact se_nm 5
            refine sa_cons ?_ ?_
            · refine se_sl ?_ ?_ ?_
              · exact se_nm 6
              · exact sp_none
              refine sp_some ?_
              exact se_nm 11
            exact sa_nil
          refine sa_cons ?_ ?_
          · refine se_sl ?_ ?_ ?_
            · exact se_nm 6
            · refine sp_some ?_
              exact se_nm 11
            exact sp_none
          exact sa_nil
        refine sa_cons ?_ ?_
        · exact se_nm 8
        exact sa_nil
      · refine ss_cons ?_ ?_
        · refine ss_ret ?_
          exact se_bl
        exact ss_nil
      exact ss_nil
    refine ss_cons ?_ ?_
    · refine ss_if ?_ ?_ ?_
      · refine st_w ?_
        refine sw_or ?_ ?_
        · refine st_not ?_
          refine st_val ?_
          refine se_call (c_alike.mono (by decide)) ⟨rfl, rfl, rfl, rfl, rfl⟩ hr ?_ rfl (lenA_cons (lenA_cons lenA_nil))
          refine sa_cons ?_ ?_
          · refine se_call (c_p_freed.mono (by decide)) ⟨rfl, rfl, rfl, rfl, rfl⟩ hr ?_ rfl (lenA_cons lenA_nil)
            refine sa_cons ?_ ?_
            · exact se_nm 3
            exact sa_nil
          refine sa_cons ?_ ?_
          · refine se_call (c_freed.mono (by decide)) ⟨rfl, rfl, rfl, rfl, rfl⟩ hr ?_ rfl (lenA_cons lenA_nil)
            refine sa_cons ?_ ?_
            · exact se_nm 3
            exact sa_nil
          exact sa_nil
        refine sw_or1 ?_
        refine st_not ?_
        refine st_val ?_
        refine se_call (c_are_judged.mono (by decide)) ⟨rfl, rfl, rfl, rfl, rfl⟩ hr ?_ rfl (lenA_cons (lenA_cons (lenA_cons lenA_nil)))
        refine sa_cons ?_ ?_
        · exact se_nm 1
        refine sa_cons ?_ ?_
        · exact se_nm 3
        refine sa_cons ?_ ?_
        · exact se_nm 6
        exact sa_nil
      · refine ss_cons ?_ ?_
        · refine ss_ret ?_
          exact se_bl
        exact ss_nil
      exact ss_nil
    refine ss_cons ?_ ?_
    · refine ss_if ?_ ?_ ?_
      · refine st_cmp (sc_ne hr) ?_ ?_
        · refine se_repr hr bn.sys bn.repr ?_
          refine se_lst ?_
          refine sa_cons ?_ ?_
          · exact se_nm 3
          refine sa_cons ?_ ?_
          · exact se_nm 5
          refine sa_cons ?_ ?_
          · exact se_nm 6
          exact sa_nil
        exact se_nm 7
      · refine ss_cons ?_ ?_
        · refine ss_ret ?_
          exact se_bl
        exact ss_nil
      exact ss_nil
    exact ss_nil
  refine ss_cons ?_ ?_
  · refine ss_ret ?_
    exact se_bl
  exact ss_nil
end D83

namespace D83
open PySem PySem.Spec PyProof.Rows L2 Z
theorem ok_bag {T : Top} (bn : Bn T) {f : Addr} {fd : FuncData} (F : Fun T.K "_law_bag" "_law_bag" s_bag f fd) : FnOk T.P T.w T.K T.mg T.base CX0 1 f fd ["_law_script_here"] (spBag T.K) := by
  have nd := nd_bag
  refine F.ok zsc_bag (fun vs H Q E h => by obtain ⟨a, ns, rfl, _⟩ := h; rfl) fun cdv A outer s H vs Q E hr h => ?_
  obtain ⟨a, ns, rfl, hS, hl, hQ⟩ := h
  refine ⟨_, pss_one (ps_ret (pe_lst (pa_cons pe_int (pa_cons pe_int (pa_cons pe_int (pa_cons (pe_lc (own := [("_law_cell", 1)]) (g := gName 1) (tt := tYes) rfl nd (pi_list (pe_slice sl_list (pv 0) po_none (po_some pe_int)))
    (blkOk_by (own := [("_law_cell", 1)]) (N := n_bag) (sc := defScope s_bag) (by decide +kernel)) (fun _ _ _ _ _ => pg_name (i := 1) nd rfl (Or.inl rfl)) (fun _ _ _ _ _ => pts_nil) (fun _ _ _ _ _ => pe_callB call_abs (by rfl) bn.abs bt_abs (pa_cons (pv 1) pa_nil))) pa_nil)))))), ?_⟩
  refine ⟨_, rfl, ?_⟩
  refine ⟨63, rfl, ?_⟩
  refine ⟨a, ns.map V.int, rfl, hS, fun p1 n1 => ?_⟩
  rw [cut63 hl]
  refine ⟨p1, rfl, ⟨_, .of upd_same⟩, fun D nD => ?_⟩
  have ne : D ≠ p1 := fun z => by rw [z, upd_same] at nD; cases nD
  have hD : H D = none := by rw [upd_ne ne] at nD; exact nD
  have sm : ∀ {H' : Hp} {o : HO}, Same H H' → Same H (upd H' D o) := fun {H' o} s b x e => by
    by_cases z : b = D
    · subst z; rw [hD] at e; cases e
    · rw [upd_ne z]; exact s b x e
  refine lc_list (a := p1) (xs := ns.map V.int) (fun i H' => H' p1 = some (.lst (ns.map V.int)) ∧ H' D = some (.lst (((ns.take i).map absI).map V.int)) ∧ Same H H') ⟨?_, upd_same, ?_⟩ (fun i H' _ h => .of h.1) (fun i x H' hx h => ?_) fun H' h => ?_
  · rw [upd_ne (Ne.symm ne), upd_same]
  · refine sm fun b x e => ?_
    by_cases z : b = p1
    · subst z; rw [n1] at e; cases e
    · rw [upd_ne z]; exact e
  · obtain ⟨n, hn2, rfl⟩ := get_map hx
    have hi : i < ns.length := (List.getElem?_eq_some_iff.mp hn2).1
    obtain ⟨h1, h2, h3⟩ := h
    refine ⟨rfl, ?_⟩
    dsimp only [tYes]
    rw [if_pos rfl]
    refine ⟨_, rfl, n, rfl, _, h2, by rw [List.length_map, List.length_map, List.length_take]; unfold sizeLine; omega, ?_, ?_, sm h3⟩
    · rw [upd_ne (Ne.symm ne)]; exact h1
    · rw [upd_same, take_next hn2, List.map_append, List.map_append]; rfl
  · rw [List.length_map, List.take_length] at h
    refine ⟨by show 4 ≤ sizeLine; decide, fun p np => ?_⟩
    have npD : D ≠ p := fun z => by rw [← z, h.2.1] at np; cases np
    exact hQ _ p D (fun b x e => by
      have e2 := h.2.2 b x e
      have : b ≠ p := fun z => by rw [z, np] at e2; cases e2
      rw [upd_ne this]; exact e2) (h.2.2.free np) hD (Ne.symm npD) upd_same (by rw [upd_ne npD]; exact h.2.1)
theorem g_law {T : Top} (bn : Bn T) {fB : Addr} {fdB : FuncData} (FB : Fun T.K "_law_bag" "_law_bag" s_bag fB fdB) (gB : T.mg "_law_bag" = some (.ref fB)) {f : Addr} {fd : FuncData} (F : Fun T.K "law" "law" s_p_law f fd)
    (rest : ∀ (f : Addr) (cdv : Value) (A : Around) (outer : List Env) (s : Shared) (H : Hp) (E : XK), RoomZ 4 (A.deeper (envOfC "law" (defScope s_p_law) s.heap.objs.size f cdv)) → SSs (dcxX T "law" s_p_law n_p_law f cdv A outer s H E) ((defBody s_p_law).drop 1) g_p_law2)
    (pure : ∀ b : Bag, b.Good → ∃ M1, g_p_law2 (none :: some (.m 0) :: List.replicate 10 none) [bagO b] = .rt (.d (.bool true)) M1) :
    FnG T (L2.CX T.P T.w) 5 f fd ["_law_script_here"] (spLaw T.K) := by
  have nd := nd_p_law
  have GB := ok_bag bn FB
  have b := FB.binds (ps := ["_law_script_here"]) fun _ _ _ _ _ _ us hl => match us, hl with | [_], _ => rfl
  refine fg_ofX F zsc_p_law (fun vs H Q E h => by obtain ⟨a, ns, rfl, _⟩ := h; rfl) fun cdv A outer s H vs Q E hr h => ?_
  obtain ⟨a, ns, rfl, hS, hl, hQ⟩ := h
  refine w_ss (pss_cons (ps_set (i := 1) nd rfl (.inl rfl) (pe_call (GB.mono (by decide)) hr.r rfl gB FB.kp b .nil pass0 (pa_cons (pv 0) pa_nil))) pss_w) ?_
  refine ⟨_, rfl, a, ns, rfl, hS, hl, fun H' p q s1 n1 n2 ne hp hq => ?_⟩
  obtain ⟨M1, eM⟩ := pure (bag0 ns) (bag0_good hl)
  refine law_restX (ns := ns) (rest f cdv A outer s H E hr) eM ne hp hq rfl rfl (fun i w e => ?_) hQ
  rcases i with _ | _ | i
  · cases e
  · cases e; exact ⟨rfl, rfl⟩
  · have e2 : (List.replicate 10 (none : Option W))[i]? = some (some w) := e
    rw [List.getElem?_replicate] at e2
    split at e2 <;> cases e2
def d_p_is_integer : He.DefD := ⟨("is_integer", none), "is_integer", "is_integer", defArgs s_p_is_integer, defBody s_p_is_integer, defScope s_p_is_integer, [], []⟩
def d_p_freed : He.DefD := ⟨("freed", none), "freed", "freed", defArgs s_p_freed, defBody s_p_freed, defScope s_p_freed, [], []⟩
def d_p_is_sort_name : He.DefD := ⟨("is_sort_name", none), "is_sort_name", "is_sort_name", defArgs s_p_is_sort_name, defBody s_p_is_sort_name, defScope s_p_is_sort_name, [], []⟩
def d_p_is_deed : He.DefD := ⟨("is_deed", none), "is_deed", "is_deed", defArgs s_p_is_deed, defBody s_p_is_deed, defScope s_p_is_deed, [], []⟩
def d_p_is_script : He.DefD := ⟨("is_script", none), "is_script", "is_script", defArgs s_p_is_script, defBody s_p_is_script, defScope s_p_is_script, [], []⟩
def d_p_do_deed : He.DefD := ⟨("do_deed", none), "do_deed", "do_deed", defArgs s_p_do_deed, defBody s_p_do_deed, defScope s_p_do_deed, [], []⟩
def d_p_done : He.DefD := ⟨("done", none), "done", "done", defArgs s_p_done, defBody s_p_done, defScope s_p_done, [], []⟩
def d_bag : He.DefD := ⟨("_law_bag", none), "_law_bag", "_law_bag", defArgs s_bag, defBody s_bag, defScope s_bag, [], []⟩
def d_take : He.DefD := ⟨("_law_take", none), "_law_take", "_law_take", defArgs s_take, defBody s_take, defScope s_take, [], []⟩
def d_one : He.DefD := ⟨("_law_one", none), "_law_one", "_law_one", defArgs s_one, defBody s_one, defScope s_one, [], []⟩
def d_mixed : He.DefD := ⟨("_law_mixed", none), "_law_mixed", "_law_mixed", defArgs s_mixed, defBody s_mixed, defScope s_mixed, [], []⟩
def d_alike : He.DefD := ⟨("_law_alike", none), "_law_alike", "_law_alike", defArgs s_alike, defBody s_alike, defScope s_alike, [], []⟩
def d_names : He.DefD := ⟨("_law_names", none), "_law_names", "_law_names", defArgs s_names, defBody s_names, defScope s_names, [], []⟩
def d_sort : He.DefD := ⟨("_law_sort", none), "_law_sort", "_law_sort", defArgs s_sort, defBody s_sort, defScope s_sort, [], []⟩
def d_house : He.DefD := ⟨("_law_house", none), "_law_house", "_law_house", defArgs s_house, defBody s_house, defScope s_house, [], []⟩
def d_numbers : He.DefD := ⟨("_law_numbers", none), "_law_numbers", "_law_numbers", defArgs s_numbers, defBody s_numbers, defScope s_numbers, [], []⟩
def d_size : He.DefD := ⟨("_law_size", none), "_law_size", "_law_size", defArgs s_size, defBody s_size, defScope s_size, [], []⟩
def d_table : He.DefD := ⟨("_law_table", none), "_law_table", "_law_table", defArgs s_table, defBody s_table, defScope s_table, [], []⟩
def d_deed : He.DefD := ⟨("_law_deed", none), "_law_deed", "_law_deed", defArgs s_deed, defBody s_deed, defScope s_deed, [], []⟩
def d_script : He.DefD := ⟨("_law_script", none), "_law_script", "_law_script", defArgs s_script, defBody s_script, defScope s_script, [], []⟩
def d_done : He.DefD := ⟨("_law_done", none), "_law_done", "_law_done", defArgs s_done, defBody s_done, defScope s_done, [], []⟩
def d_in : He.DefD := ⟨("_law_in", none), "_law_in", "_law_in", defArgs s_in, defBody s_in, defScope s_in, [], []⟩
def d_is_whole : He.DefD := ⟨("_law_is_whole", none), "_law_is_whole", "_law_is_whole", defArgs s_is_whole, defBody s_is_whole, defScope s_is_whole, [], []⟩
def d_is_deed : He.DefD := ⟨("_law_is_deed", none), "_law_is_deed", "_law_is_deed", defArgs s_is_deed, defBody s_is_deed, defScope s_is_deed, [], []⟩
def d_freed : He.DefD := ⟨("_law_freed", none), "_law_freed", "_law_freed", defArgs s_freed, defBody s_freed, defScope s_freed, [], []⟩
def d_other_deed : He.DefD := ⟨("_law_other_deed", none), "_law_other_deed", "_law_other_deed", defArgs s_other_deed, defBody s_other_deed, defScope s_other_deed, [], []⟩
def d_are_judged : He.DefD := ⟨("_law_are_judged", none), "_law_are_judged", "_law_are_judged", defArgs s_are_judged, defBody s_are_judged, defScope s_are_judged, [], []⟩
def d_p_law : He.DefD := ⟨("law", none), "law", "law", defArgs s_p_law, defBody s_p_law, defScope s_p_law, [], []⟩
def fn : List He.DefD := [d_p_is_integer, d_p_freed, d_p_is_sort_name, d_p_is_deed, d_p_is_script, d_p_do_deed, d_p_done, d_bag, d_take, d_one, d_mixed, d_alike, d_names, d_sort, d_house, d_numbers, d_size, d_table, d_deed, d_script, d_done, d_in, d_is_whole, d_is_deed, d_freed, d_other_deed, d_are_judged, d_p_law]
def fa : List He.Fa := [.glo "is_integer", .glo "freed", .glo "is_sort_name", .glo "is_deed", .glo "is_script", .glo "do_deed", .glo "done", .glo "_law_bag", .glo "_law_take", .glo "_law_one", .glo "_law_mixed", .glo "_law_alike", .glo "_law_names", .glo "_law_sort", .glo "_law_house", .glo "_law_numbers", .glo "_law_size", .glo "_law_table", .glo "_law_deed", .glo "_law_script", .glo "_law_done", .glo "_law_in", .glo "_law_is_whole", .glo "_law_is_deed", .glo "_law_freed", .glo "_law_other_deed", .glo "_law_are_judged", .glo "law", .free "len", .free "abs", .free "min", .free "max", .free "repr", .free "sorted", .free "isinstance", .free "all", .free "any", .free "sum", .free "int", .free "bool", .free "str", .free "list", .free "tuple", .free "dict", .free "set", .free "zip", .free "range", .free "enumerate", .free "reversed"]
abbrev R : PySem.W.OpenRow := PySem.W.OpenLaw.row PySem.Challenge.rw_countsfall_k83_deeds_done
def loose : List PySem.Str := (["is_integer", "freed", "is_sort_name", "is_deed", "is_script", "do_deed", "done", "_law_bag", "_law_take", "_law_one", "_law_mixed", "_law_alike", "_law_names", "_law_sort", "_law_house", "_law_numbers", "_law_size", "_law_table", "_law_deed", "_law_script", "_law_done", "_law_in", "_law_is_whole", "_law_is_deed", "_law_freed", "_law_other_deed", "_law_are_judged"] : List PySem.Str)
theorem run (w : World) : HandSHeadRun.RunEq R (PySem.W.view R.prog [30]) (hookZ 4 fa fn) (obZ 4 fa fn) 4000 loose w := by
  intro os
  kernel_rfl
theorem facts {P : Program} {w : World} {K : PySem.W.Frag} {h : Heap} {mg : Str → Option Value} {f : Addr} (X : K.In h) (c : He.SaysD fa fn K) (G : h.Ns mainGlobals mg) (hfa : mg ("law" : Str) = some (.ref f)) :
    ∃ (fd : FuncData), (∀ (s : Shared) (u : Value), BindsTo s fd ⟨[u], []⟩ [("_law_script_here", u)]) ∧ ∀ base : Heap, K.In base → base.Ns mainGlobals mg → (∃ o, base.get? sysModules = some o) → FnG ⟨P, w, K, mg, base⟩ (L2.CX P w) 5 f fd ["_law_script_here"] (spLaw K) := by
  obtain ⟨fd_p_is_integer, F_p_is_integer⟩ := c.def_ 0 (d := d_p_is_integer) rfl
  have g_p_is_integer := He.glo_ok X G (c.fact 0 (f := .glo "is_integer") rfl)
  obtain ⟨fd_p_freed, F_p_freed⟩ := c.def_ 1 (d := d_p_freed) rfl
  have g_p_freed := He.glo_ok X G (c.fact 1 (f := .glo "freed") rfl)
  obtain ⟨fd_p_is_sort_name, F_p_is_sort_name⟩ := c.def_ 2 (d := d_p_is_sort_name) rfl
  have g_p_is_sort_name := He.glo_ok X G (c.fact 2 (f := .glo "is_sort_name") rfl)
  obtain ⟨fd_p_is_deed, F_p_is_deed⟩ := c.def_ 3 (d := d_p_is_deed) rfl
  have g_p_is_deed := He.glo_ok X G (c.fact 3 (f := .glo "is_deed") rfl)
  obtain ⟨fd_p_is_script, F_p_is_script⟩ := c.def_ 4 (d := d_p_is_script) rfl
  have g_p_is_script := He.glo_ok X G (c.fact 4 (f := .glo "is_script") rfl)
  obtain ⟨fd_p_do_deed, F_p_do_deed⟩ := c.def_ 5 (d := d_p_do_deed) rfl
  have g_p_do_deed := He.glo_ok X G (c.fact 5 (f := .glo "do_deed") rfl)
  obtain ⟨fd_p_done, F_p_done⟩ := c.def_ 6 (d := d_p_done) rfl
  have g_p_done := He.glo_ok X G (c.fact 6 (f := .glo "done") rfl)
  obtain ⟨fd_bag, F_bag⟩ := c.def_ 7 (d := d_bag) rfl
  have g_bag := He.glo_ok X G (c.fact 7 (f := .glo "_law_bag") rfl)
  obtain ⟨fd_take, F_take⟩ := c.def_ 8 (d := d_take) rfl
  have g_take := He.glo_ok X G (c.fact 8 (f := .glo "_law_take") rfl)
  obtain ⟨fd_one, F_one⟩ := c.def_ 9 (d := d_one) rfl
  have g_one := He.glo_ok X G (c.fact 9 (f := .glo "_law_one") rfl)
  obtain ⟨fd_mixed, F_mixed⟩ := c.def_ 10 (d := d_mixed) rfl
  have g_mixed := He.glo_ok X G (c.fact 10 (f := .glo "_law_mixed") rfl)
  obtain ⟨fd_alike, F_alike⟩ := c.def_ 11 (d := d_alike) rfl
  have g_alike := He.glo_ok X G (c.fact 11 (f := .glo "_law_alike") rfl)
  obtain ⟨fd_names, F_names⟩ := c.def_ 12 (d := d_names) rfl
  have g_names := He.glo_ok X G (c.fact 12 (f := .glo "_law_names") rfl)
  obtain ⟨fd_sort, F_sort⟩ := c.def_ 13 (d := d_sort) rfl
  have g_sort := He.glo_ok X G (c.fact 13 (f := .glo "_law_sort") rfl)
  obtain ⟨fd_house, F_house⟩ := c.def_ 14 (d := d_house) rfl
  have g_house := He.glo_ok X G (c.fact 14 (f := .glo "_law_house") rfl)
  obtain ⟨fd_numbers, F_numbers⟩ := c.def_ 15 (d := d_numbers) rfl
  have g_numbers := He.glo_ok X G (c.fact 15 (f := .glo "_law_numbers") rfl)
  obtain ⟨fd_size, F_size⟩ := c.def_ 16 (d := d_size) rfl
  have g_size := He.glo_ok X G (c.fact 16 (f := .glo "_law_size") rfl)
  obtain ⟨fd_table, F_table⟩ := c.def_ 17 (d := d_table) rfl
  have g_table := He.glo_ok X G (c.fact 17 (f := .glo "_law_table") rfl)
  obtain ⟨fd_deed, F_deed⟩ := c.def_ 18 (d := d_deed) rfl
  have g_deed := He.glo_ok X G (c.fact 18 (f := .glo "_law_deed") rfl)
  obtain ⟨fd_script, F_script⟩ := c.def_ 19 (d := d_script) rfl
  have g_script := He.glo_ok X G (c.fact 19 (f := .glo "_law_script") rfl)
  obtain ⟨fd_done, F_done⟩ := c.def_ 20 (d := d_done) rfl
  have g_done := He.glo_ok X G (c.fact 20 (f := .glo "_law_done") rfl)
  obtain ⟨fd_in, F_in⟩ := c.def_ 21 (d := d_in) rfl
  have g_in := He.glo_ok X G (c.fact 21 (f := .glo "_law_in") rfl)
  obtain ⟨fd_is_whole, F_is_whole⟩ := c.def_ 22 (d := d_is_whole) rfl
  have g_is_whole := He.glo_ok X G (c.fact 22 (f := .glo "_law_is_whole") rfl)
  obtain ⟨fd_is_deed, F_is_deed⟩ := c.def_ 23 (d := d_is_deed) rfl
  have g_is_deed := He.glo_ok X G (c.fact 23 (f := .glo "_law_is_deed") rfl)
  obtain ⟨fd_freed, F_freed⟩ := c.def_ 24 (d := d_freed) rfl
  have g_freed := He.glo_ok X G (c.fact 24 (f := .glo "_law_freed") rfl)
  obtain ⟨fd_other_deed, F_other_deed⟩ := c.def_ 25 (d := d_other_deed) rfl
  have g_other_deed := He.glo_ok X G (c.fact 25 (f := .glo "_law_other_deed") rfl)
  obtain ⟨fd_are_judged, F_are_judged⟩ := c.def_ 26 (d := d_are_judged) rfl
  have g_are_judged := He.glo_ok X G (c.fact 26 (f := .glo "_law_are_judged") rfl)
  obtain ⟨fd_p_law, F_p_law⟩ := c.def_ 27 (d := d_p_law) rfl
  have g_p_law := He.glo_ok X G (c.fact 27 (f := .glo "law") rfl)
  have e := hfa.symm.trans g_p_law
  cases e
  have b := FunD.bindsA (ps := ["_law_script_here"]) F_p_law fun _ _ _ _ _ _ us hl => match us, hl with | [_], _ => rfl
  refine ⟨fd_p_law, fun s v => b s [v] rfl, fun base KB GB sys => ?_⟩
  have bn : Bn ⟨P, w, K, mg, base⟩ := ⟨He.free_ok X G (c.fact 28 (f := .free "len") rfl), He.free_ok X G (c.fact 29 (f := .free "abs") rfl), He.free_ok X G (c.fact 30 (f := .free "min") rfl), He.free_ok X G (c.fact 31 (f := .free "max") rfl), He.free_ok X G (c.fact 32 (f := .free "repr") rfl), He.free_ok X G (c.fact 33 (f := .free "sorted") rfl), He.free_ok X G (c.fact 34 (f := .free "isinstance") rfl), He.free_ok X G (c.fact 35 (f := .free "all") rfl), He.free_ok X G (c.fact 36 (f := .free "any") rfl), He.free_ok X G (c.fact 37 (f := .free "sum") rfl), He.free_ok X G (c.fact 38 (f := .free "int") rfl), He.free_ok X G (c.fact 39 (f := .free "bool") rfl), He.free_ok X G (c.fact 40 (f := .free "str") rfl), He.free_ok X G (c.fact 41 (f := .free "list") rfl), He.free_ok X G (c.fact 42 (f := .free "tuple") rfl), He.free_ok X G (c.fact 43 (f := .free "dict") rfl), He.free_ok X G (c.fact 44 (f := .free "set") rfl), He.free_ok X G (c.fact 45 (f := .free "zip") rfl), He.free_ok X G (c.fact 46 (f := .free "range") rfl), He.free_ok X G (c.fact 47 (f := .free "enumerate") rfl), He.free_ok X G (c.fact 48 (f := .free "reversed") rfl), sys⟩
  have a_p_is_integer : DefAt ⟨P, w, K, mg, base⟩ "is_integer" s_p_is_integer := ⟨_, _, funD_fun F_p_is_integer, g_p_is_integer⟩
  have a_p_freed : DefAt ⟨P, w, K, mg, base⟩ "freed" s_p_freed := ⟨_, _, funD_fun F_p_freed, g_p_freed⟩
  have a_p_is_sort_name : DefAt ⟨P, w, K, mg, base⟩ "is_sort_name" s_p_is_sort_name := ⟨_, _, funD_fun F_p_is_sort_name, g_p_is_sort_name⟩
  have a_p_is_deed : DefAt ⟨P, w, K, mg, base⟩ "is_deed" s_p_is_deed := ⟨_, _, funD_fun F_p_is_deed, g_p_is_deed⟩
  have a_p_is_script : DefAt ⟨P, w, K, mg, base⟩ "is_script" s_p_is_script := ⟨_, _, funD_fun F_p_is_script, g_p_is_script⟩
  have a_p_do_deed : DefAt ⟨P, w, K, mg, base⟩ "do_deed" s_p_do_deed := ⟨_, _, funD_fun F_p_do_deed, g_p_do_deed⟩
  have a_p_done : DefAt ⟨P, w, K, mg, base⟩ "done" s_p_done := ⟨_, _, funD_fun F_p_done, g_p_done⟩
  have a_take : DefAt ⟨P, w, K, mg, base⟩ "_law_take" s_take := ⟨_, _, funD_fun F_take, g_take⟩
  have a_one : DefAt ⟨P, w, K, mg, base⟩ "_law_one" s_one := ⟨_, _, funD_fun F_one, g_one⟩
  have a_mixed : DefAt ⟨P, w, K, mg, base⟩ "_law_mixed" s_mixed := ⟨_, _, funD_fun F_mixed, g_mixed⟩
  have a_alike : DefAt ⟨P, w, K, mg, base⟩ "_law_alike" s_alike := ⟨_, _, funD_fun F_alike, g_alike⟩
  have a_names : DefAt ⟨P, w, K, mg, base⟩ "_law_names" s_names := ⟨_, _, funD_fun F_names, g_names⟩
  have a_sort : DefAt ⟨P, w, K, mg, base⟩ "_law_sort" s_sort := ⟨_, _, funD_fun F_sort, g_sort⟩
  have a_house : DefAt ⟨P, w, K, mg, base⟩ "_law_house" s_house := ⟨_, _, funD_fun F_house, g_house⟩
  have a_numbers : DefAt ⟨P, w, K, mg, base⟩ "_law_numbers" s_numbers := ⟨_, _, funD_fun F_numbers, g_numbers⟩
  have a_size : DefAt ⟨P, w, K, mg, base⟩ "_law_size" s_size := ⟨_, _, funD_fun F_size, g_size⟩
  have a_table : DefAt ⟨P, w, K, mg, base⟩ "_law_table" s_table := ⟨_, _, funD_fun F_table, g_table⟩
  have a_deed : DefAt ⟨P, w, K, mg, base⟩ "_law_deed" s_deed := ⟨_, _, funD_fun F_deed, g_deed⟩
  have a_script : DefAt ⟨P, w, K, mg, base⟩ "_law_script" s_script := ⟨_, _, funD_fun F_script, g_script⟩
  have a_done : DefAt ⟨P, w, K, mg, base⟩ "_law_done" s_done := ⟨_, _, funD_fun F_done, g_done⟩
  have a_in : DefAt ⟨P, w, K, mg, base⟩ "_law_in" s_in := ⟨_, _, funD_fun F_in, g_in⟩
  have a_is_whole : DefAt ⟨P, w, K, mg, base⟩ "_law_is_whole" s_is_whole := ⟨_, _, funD_fun F_is_whole, g_is_whole⟩
  have a_is_deed : DefAt ⟨P, w, K, mg, base⟩ "_law_is_deed" s_is_deed := ⟨_, _, funD_fun F_is_deed, g_is_deed⟩
  have a_freed : DefAt ⟨P, w, K, mg, base⟩ "_law_freed" s_freed := ⟨_, _, funD_fun F_freed, g_freed⟩
  have a_other_deed : DefAt ⟨P, w, K, mg, base⟩ "_law_other_deed" s_other_deed := ⟨_, _, funD_fun F_other_deed, g_other_deed⟩
  have a_are_judged : DefAt ⟨P, w, K, mg, base⟩ "_law_are_judged" s_are_judged := ⟨_, _, funD_fun F_are_judged, g_are_judged⟩
  have k_p_is_integer := fs_p_is_integer bn a_p_is_integer
  have k_p_freed := fs_p_freed bn a_p_freed
  have k_p_is_sort_name := fs_p_is_sort_name bn a_p_is_sort_name
  have k_p_is_deed := fs_p_is_deed bn a_p_is_deed k_p_is_sort_name k_p_is_integer
  have k_p_is_script := fs_p_is_script bn a_p_is_script k_p_is_deed
  have k_p_do_deed := fs_p_do_deed bn a_p_do_deed
  have k_p_done := fs_p_done bn a_p_done k_p_do_deed
  have k_p_done_M := fs_p_done_M bn a_p_done k_p_do_deed
  have k_take := fs_take bn a_take
  have k_one := fs_one bn a_one k_take
  have k_mixed := fs_mixed bn a_mixed k_take
  have k_alike := fs_alike bn a_alike
  have k_names := fs_names bn a_names k_mixed
  have k_sort := fs_sort bn a_sort k_take k_one
  have k_house := fs_house bn a_house k_sort k_names k_take
  have k_numbers := fs_numbers bn a_numbers k_one k_take
  have k_size := fs_size bn a_size k_take
  have k_table := fs_table bn a_table k_mixed k_one k_size
  have k_deed := fs_deed bn a_deed k_take k_mixed k_one
  have k_script := fs_script bn a_script k_deed k_take
  have k_done := fs_done bn a_done
  have k_in := fs_in bn a_in k_alike
  have k_is_whole := fs_is_whole bn a_is_whole
  have k_is_deed := fs_is_deed bn a_is_deed k_alike k_is_whole k_in
  have k_freed := fs_freed bn a_freed
  have k_other_deed := fs_other_deed bn a_other_deed k_one
  have k_are_judged := fs_are_judged bn a_are_judged k_take k_other_deed k_alike k_p_is_deed k_is_deed k_p_is_script
  exact g_law bn (funD_fun F_bag) g_bag (funD_fun F_p_law) (fun f cdv A outer s H E hr => @w_p_law ⟨P, w, K, mg, base⟩ bn k_table k_script k_take k_house k_numbers k_one k_done k_p_done k_p_done_M k_alike k_are_judged k_p_freed k_freed f cdv A outer s H E hr) pure83
end D83
open PySem PySem.W PySem.Calls PyProof.Rows
theorem PySem.Challenge.cw_countsfall_k83_deeds_done_holds : PySem.Challenge.rw_countsfall_k83_deeds_done.Holds := by
  w_on; o_law
  refine HandSHeadRun.head_any (r := OpenLaw.row PySem.Challenge.rw_countsfall_k83_deeds_done) (q := view (OpenLaw.row PySem.Challenge.rw_countsfall_k83_deeds_done).prog [30]) (H := Z.hookZ 4 D83.fa D83.fn) (ob := Z.obZ 4 D83.fa D83.fn) (M := 4000) (loose := D83.loose) (d := HandSHeadRun.topDef (OpenLaw.row PySem.Challenge.rw_countsfall_k83_deeds_done).prog 30) (kwd := []) Z.obZ_eq
    (by kernel_rfl) (fun s => by kernel_rfl) D83.run (by kernel_rfl) (by kernel_rfl) (by kernel_rfl) (by rfl) (by first | assumption | decide +kernel) (by decide +kernel) ⟨rfl, rfl, rfl, rfl, rfl, by decide +kernel⟩ ?hw ?hc
  case hw => w_witness2
  case hc =>
    refine Z.walkX (l := PySem.Challenge.rw_countsfall_k83_deeds_done) (n := 63) (k := 5) (x := "_law_script_here") rfl (by decide) (by kernel_rfl) (Z.room0 ⟨rfl, by decide, by decide⟩) ?F
    intro w K mg f h KX c G hmg0
    have hmg : mg ("law" : PySem.Str) = some (.ref f) := by
      have e : (HandSHeadRun.topDef (OpenLaw.row PySem.Challenge.rw_countsfall_k83_deeds_done).prog 30).name = ("law" : PySem.Str) := by kernel_rfl
      rw [← e]
      exact hmg0
    obtain ⟨fd, hb, hF⟩ := D83.facts (P := (PySem.Challenge.rw_countsfall_k83_deeds_done).prog) (w := w) KX c G hmg
    exact ⟨fd, Z.spLaw K, hb, fun H a ns hl hS => ⟨a, ns, rfl, hS, hl, fun _ => rfl⟩, hF⟩
